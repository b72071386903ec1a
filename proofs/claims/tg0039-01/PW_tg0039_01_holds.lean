import PyProof.Rows.All
import Wide.All
import OpenK.AllK
import Wide.FinOn
import Lean
import PySem.Challenge.RW_tg0039_01
set_option Elab.async false
set_option maxRecDepth 1000000
set_option autoImplicit false
set_option linter.all false
namespace Mine
theorem xA0_1  {p0 p1:Prop} {g:Prop} (h:p0 /\ p1) (k:p0 -> p1 -> g):g:=k h.1 h.2
theorem xA0_2  {p0 p1 p2:Prop} {g:Prop} (h:p0 /\ p1 /\ p2) (k:p0 -> p1 -> p2 -> g):g:=k h.1 h.2.1 h.2.2
theorem xA0_3  {p0 p1 p2 p3:Prop} {g:Prop} (h:p0 /\ p1 /\ p2 /\ p3) (k:p0 -> p1 -> p2 -> p3 -> g):g:=k h.1 h.2.1 h.2.2.1 h.2.2.2
theorem xA0_4  {p0 p1 p2 p3 p4:Prop} {g:Prop} (h:p0 /\ p1 /\ p2 /\ p3 /\ p4) (k:p0 -> p1 -> p2 -> p3 -> p4 -> g):g:=k h.1 h.2.1 h.2.2.1 h.2.2.2.1 h.2.2.2.2
theorem xA0_5  {p0 p1 p2 p3 p4 p5:Prop} {g:Prop} (h:p0 /\ p1 /\ p2 /\ p3 /\ p4 /\ p5) (k:p0 -> p1 -> p2 -> p3 -> p4 -> p5 -> g):g:=k h.1 h.2.1 h.2.2.1 h.2.2.2.1 h.2.2.2.2.1 h.2.2.2.2.2
theorem xA0_6  {p0 p1 p2 p3 p4 p5 p6:Prop} {g:Prop} (h:p0 /\ p1 /\ p2 /\ p3 /\ p4 /\ p5 /\ p6) (k:p0 -> p1 -> p2 -> p3 -> p4 -> p5 -> p6 -> g):g:=k h.1 h.2.1 h.2.2.1 h.2.2.2.1 h.2.2.2.2.1 h.2.2.2.2.2.1 h.2.2.2.2.2.2
theorem xA0_7  {p0 p1 p2 p3 p4 p5 p6 p7:Prop} {g:Prop} (h:p0 /\ p1 /\ p2 /\ p3 /\ p4 /\ p5 /\ p6 /\ p7) (k:p0 -> p1 -> p2 -> p3 -> p4 -> p5 -> p6 -> p7 -> g):g:=k h.1 h.2.1 h.2.2.1 h.2.2.2.1 h.2.2.2.2.1 h.2.2.2.2.2.1 h.2.2.2.2.2.2.1 h.2.2.2.2.2.2.2
theorem xA0_8  {p0 p1 p2 p3 p4 p5 p6 p7 p8:Prop} {g:Prop} (h:p0 /\ p1 /\ p2 /\ p3 /\ p4 /\ p5 /\ p6 /\ p7 /\ p8) (k:p0 -> p1 -> p2 -> p3 -> p4 -> p5 -> p6 -> p7 -> p8 -> g):g:=k h.1 h.2.1 h.2.2.1 h.2.2.2.1 h.2.2.2.2.1 h.2.2.2.2.2.1 h.2.2.2.2.2.2.1 h.2.2.2.2.2.2.2.1 h.2.2.2.2.2.2.2.2
theorem xA0_9  {p0 p1 p2 p3 p4 p5 p6 p7 p8 p9:Prop} {g:Prop} (h:p0 /\ p1 /\ p2 /\ p3 /\ p4 /\ p5 /\ p6 /\ p7 /\ p8 /\ p9) (k:p0 -> p1 -> p2 -> p3 -> p4 -> p5 -> p6 -> p7 -> p8 -> p9 -> g):g:=k h.1 h.2.1 h.2.2.1 h.2.2.2.1 h.2.2.2.2.1 h.2.2.2.2.2.1 h.2.2.2.2.2.2.1 h.2.2.2.2.2.2.2.1 h.2.2.2.2.2.2.2.2.1 h.2.2.2.2.2.2.2.2.2
theorem xA1_0.{u0} {α0:Sort u0} {p0:α0 -> Prop} {g:Prop} (h:∃ a0,p0 a0) (k:∀ a0,p0 a0 -> g):g:=h.elim fun a0 h=>k a0 h
theorem xA1_1.{u0} {α0:Sort u0} {p0 p1:α0 -> Prop} {g:Prop} (h:∃ a0,p0 a0 /\ p1 a0) (k:∀ a0,p0 a0 -> p1 a0 -> g):g:=h.elim fun a0 h=>k a0 h.1 h.2
theorem xA1_2.{u0} {α0:Sort u0} {p0 p1 p2:α0 -> Prop} {g:Prop} (h:∃ a0,p0 a0 /\ p1 a0 /\ p2 a0) (k:∀ a0,p0 a0 -> p1 a0 -> p2 a0 -> g):g:=h.elim fun a0 h=>k a0 h.1 h.2.1 h.2.2
theorem xA2_0.{u0,u1} {α0:Sort u0} {α1:Sort u1} {p0:α0 -> α1 -> Prop} {g:Prop} (h:∃ a0 a1,p0 a0 a1) (k:∀ a0 a1,p0 a0 a1 -> g):g:=h.elim fun a0 h=>h.elim fun a1 h=>k a0 a1 h
theorem xA2_1.{u0,u1} {α0:Sort u0} {α1:Sort u1} {p0 p1:α0 -> α1 -> Prop} {g:Prop} (h:∃ a0 a1,p0 a0 a1 /\ p1 a0 a1) (k:∀ a0 a1,p0 a0 a1 -> p1 a0 a1 -> g):g:=h.elim fun a0 h=>h.elim fun a1 h=>k a0 a1 h.1 h.2
theorem xA2_2.{u0,u1} {α0:Sort u0} {α1:Sort u1} {p0 p1 p2:α0 -> α1 -> Prop} {g:Prop} (h:∃ a0 a1,p0 a0 a1 /\ p1 a0 a1 /\ p2 a0 a1) (k:∀ a0 a1,p0 a0 a1 -> p1 a0 a1 -> p2 a0 a1 -> g):g:=h.elim fun a0 h=>h.elim fun a1 h=>k a0 a1 h.1 h.2.1 h.2.2
theorem xA2_3.{u0,u1} {α0:Sort u0} {α1:Sort u1} {p0 p1 p2 p3:α0 -> α1 -> Prop} {g:Prop} (h:∃ a0 a1,p0 a0 a1 /\ p1 a0 a1 /\ p2 a0 a1 /\ p3 a0 a1) (k:∀ a0 a1,p0 a0 a1 -> p1 a0 a1 -> p2 a0 a1 -> p3 a0 a1 -> g):g:=h.elim fun a0 h=>h.elim fun a1 h=>k a0 a1 h.1 h.2.1 h.2.2.1 h.2.2.2
theorem xA2_4.{u0,u1} {α0:Sort u0} {α1:Sort u1} {p0 p1 p2 p3 p4:α0 -> α1 -> Prop} {g:Prop} (h:∃ a0 a1,p0 a0 a1 /\ p1 a0 a1 /\ p2 a0 a1 /\ p3 a0 a1 /\ p4 a0 a1) (k:∀ a0 a1,p0 a0 a1 -> p1 a0 a1 -> p2 a0 a1 -> p3 a0 a1 -> p4 a0 a1 -> g):g:=h.elim fun a0 h=>h.elim fun a1 h=>k a0 a1 h.1 h.2.1 h.2.2.1 h.2.2.2.1 h.2.2.2.2
theorem xA3_0.{u0,u1,u2} {α0:Sort u0} {α1:Sort u1} {α2:Sort u2} {p0:α0 -> α1 -> α2 -> Prop} {g:Prop} (h:∃ a0 a1 a2,p0 a0 a1 a2) (k:∀ a0 a1 a2,p0 a0 a1 a2 -> g):g:=h.elim fun a0 h=>h.elim fun a1 h=>h.elim fun a2 h=>k a0 a1 a2 h
theorem xA3_1.{u0,u1,u2} {α0:Sort u0} {α1:Sort u1} {α2:Sort u2} {p0 p1:α0 -> α1 -> α2 -> Prop} {g:Prop} (h:∃ a0 a1 a2,p0 a0 a1 a2 /\ p1 a0 a1 a2) (k:∀ a0 a1 a2,p0 a0 a1 a2 -> p1 a0 a1 a2 -> g):g:=h.elim fun a0 h=>h.elim fun a1 h=>h.elim fun a2 h=>k a0 a1 a2 h.1 h.2
theorem xA3_2.{u0,u1,u2} {α0:Sort u0} {α1:Sort u1} {α2:Sort u2} {p0 p1 p2:α0 -> α1 -> α2 -> Prop} {g:Prop} (h:∃ a0 a1 a2,p0 a0 a1 a2 /\ p1 a0 a1 a2 /\ p2 a0 a1 a2) (k:∀ a0 a1 a2,p0 a0 a1 a2 -> p1 a0 a1 a2 -> p2 a0 a1 a2 -> g):g:=h.elim fun a0 h=>h.elim fun a1 h=>h.elim fun a2 h=>k a0 a1 a2 h.1 h.2.1 h.2.2
theorem xA3_3.{u0,u1,u2} {α0:Sort u0} {α1:Sort u1} {α2:Sort u2} {p0 p1 p2 p3:α0 -> α1 -> α2 -> Prop} {g:Prop} (h:∃ a0 a1 a2,p0 a0 a1 a2 /\ p1 a0 a1 a2 /\ p2 a0 a1 a2 /\ p3 a0 a1 a2) (k:∀ a0 a1 a2,p0 a0 a1 a2 -> p1 a0 a1 a2 -> p2 a0 a1 a2 -> p3 a0 a1 a2 -> g):g:=h.elim fun a0 h=>h.elim fun a1 h=>h.elim fun a2 h=>k a0 a1 a2 h.1 h.2.1 h.2.2.1 h.2.2.2
theorem xA3_4.{u0,u1,u2} {α0:Sort u0} {α1:Sort u1} {α2:Sort u2} {p0 p1 p2 p3 p4:α0 -> α1 -> α2 -> Prop} {g:Prop} (h:∃ a0 a1 a2,p0 a0 a1 a2 /\ p1 a0 a1 a2 /\ p2 a0 a1 a2 /\ p3 a0 a1 a2 /\ p4 a0 a1 a2) (k:∀ a0 a1 a2,p0 a0 a1 a2 -> p1 a0 a1 a2 -> p2 a0 a1 a2 -> p3 a0 a1 a2 -> p4 a0 a1 a2 -> g):g:=h.elim fun a0 h=>h.elim fun a1 h=>h.elim fun a2 h=>k a0 a1 a2 h.1 h.2.1 h.2.2.1 h.2.2.2.1 h.2.2.2.2
theorem xA3_5.{u0,u1,u2} {α0:Sort u0} {α1:Sort u1} {α2:Sort u2} {p0 p1 p2 p3 p4 p5:α0 -> α1 -> α2 -> Prop} {g:Prop} (h:∃ a0 a1 a2,p0 a0 a1 a2 /\ p1 a0 a1 a2 /\ p2 a0 a1 a2 /\ p3 a0 a1 a2 /\ p4 a0 a1 a2 /\ p5 a0 a1 a2) (k:∀ a0 a1 a2,p0 a0 a1 a2 -> p1 a0 a1 a2 -> p2 a0 a1 a2 -> p3 a0 a1 a2 -> p4 a0 a1 a2 -> p5 a0 a1 a2 -> g):g:=h.elim fun a0 h=>h.elim fun a1 h=>h.elim fun a2 h=>k a0 a1 a2 h.1 h.2.1 h.2.2.1 h.2.2.2.1 h.2.2.2.2.1 h.2.2.2.2.2
theorem xA4_0.{u0,u1,u2,u3} {α0:Sort u0} {α1:Sort u1} {α2:Sort u2} {α3:Sort u3} {p0:α0 -> α1 -> α2 -> α3 -> Prop} {g:Prop} (h:∃ a0 a1 a2 a3,p0 a0 a1 a2 a3) (k:∀ a0 a1 a2 a3,p0 a0 a1 a2 a3 -> g):g:=h.elim fun a0 h=>h.elim fun a1 h=>h.elim fun a2 h=>h.elim fun a3 h=>k a0 a1 a2 a3 h
theorem xA4_2.{u0,u1,u2,u3} {α0:Sort u0} {α1:Sort u1} {α2:Sort u2} {α3:Sort u3} {p0 p1 p2:α0 -> α1 -> α2 -> α3 -> Prop} {g:Prop} (h:∃ a0 a1 a2 a3,p0 a0 a1 a2 a3 /\ p1 a0 a1 a2 a3 /\ p2 a0 a1 a2 a3) (k:∀ a0 a1 a2 a3,p0 a0 a1 a2 a3 -> p1 a0 a1 a2 a3 -> p2 a0 a1 a2 a3 -> g):g:=h.elim fun a0 h=>h.elim fun a1 h=>h.elim fun a2 h=>h.elim fun a3 h=>k a0 a1 a2 a3 h.1 h.2.1 h.2.2
theorem xA4_3.{u0,u1,u2,u3} {α0:Sort u0} {α1:Sort u1} {α2:Sort u2} {α3:Sort u3} {p0 p1 p2 p3:α0 -> α1 -> α2 -> α3 -> Prop} {g:Prop} (h:∃ a0 a1 a2 a3,p0 a0 a1 a2 a3 /\ p1 a0 a1 a2 a3 /\ p2 a0 a1 a2 a3 /\ p3 a0 a1 a2 a3) (k:∀ a0 a1 a2 a3,p0 a0 a1 a2 a3 -> p1 a0 a1 a2 a3 -> p2 a0 a1 a2 a3 -> p3 a0 a1 a2 a3 -> g):g:=h.elim fun a0 h=>h.elim fun a1 h=>h.elim fun a2 h=>h.elim fun a3 h=>k a0 a1 a2 a3 h.1 h.2.1 h.2.2.1 h.2.2.2
theorem xA4_5.{u0,u1,u2,u3} {α0:Sort u0} {α1:Sort u1} {α2:Sort u2} {α3:Sort u3} {p0 p1 p2 p3 p4 p5:α0 -> α1 -> α2 -> α3 -> Prop} {g:Prop} (h:∃ a0 a1 a2 a3,p0 a0 a1 a2 a3 /\ p1 a0 a1 a2 a3 /\ p2 a0 a1 a2 a3 /\ p3 a0 a1 a2 a3 /\ p4 a0 a1 a2 a3 /\ p5 a0 a1 a2 a3) (k:∀ a0 a1 a2 a3,p0 a0 a1 a2 a3 -> p1 a0 a1 a2 a3 -> p2 a0 a1 a2 a3 -> p3 a0 a1 a2 a3 -> p4 a0 a1 a2 a3 -> p5 a0 a1 a2 a3 -> g):g:=h.elim fun a0 h=>h.elim fun a1 h=>h.elim fun a2 h=>h.elim fun a3 h=>k a0 a1 a2 a3 h.1 h.2.1 h.2.2.1 h.2.2.2.1 h.2.2.2.2.1 h.2.2.2.2.2
theorem xA5_0.{u0,u1,u2,u3,u4} {α0:Sort u0} {α1:Sort u1} {α2:Sort u2} {α3:Sort u3} {α4:Sort u4} {p0:α0 -> α1 -> α2 -> α3 -> α4 -> Prop} {g:Prop} (h:∃ a0 a1 a2 a3 a4,p0 a0 a1 a2 a3 a4) (k:∀ a0 a1 a2 a3 a4,p0 a0 a1 a2 a3 a4 -> g):g:=h.elim fun a0 h=>h.elim fun a1 h=>h.elim fun a2 h=>h.elim fun a3 h=>h.elim fun a4 h=>k a0 a1 a2 a3 a4 h
theorem xA5_5.{u0,u1,u2,u3,u4} {α0:Sort u0} {α1:Sort u1} {α2:Sort u2} {α3:Sort u3} {α4:Sort u4} {p0 p1 p2 p3 p4 p5:α0 -> α1 -> α2 -> α3 -> α4 -> Prop} {g:Prop} (h:∃ a0 a1 a2 a3 a4,p0 a0 a1 a2 a3 a4 /\ p1 a0 a1 a2 a3 a4 /\ p2 a0 a1 a2 a3 a4 /\ p3 a0 a1 a2 a3 a4 /\ p4 a0 a1 a2 a3 a4 /\ p5 a0 a1 a2 a3 a4) (k:∀ a0 a1 a2 a3 a4,p0 a0 a1 a2 a3 a4 -> p1 a0 a1 a2 a3 a4 -> p2 a0 a1 a2 a3 a4 -> p3 a0 a1 a2 a3 a4 -> p4 a0 a1 a2 a3 a4 -> p5 a0 a1 a2 a3 a4 -> g):g:=h.elim fun a0 h=>h.elim fun a1 h=>h.elim fun a2 h=>h.elim fun a3 h=>h.elim fun a4 h=>k a0 a1 a2 a3 a4 h.1 h.2.1 h.2.2.1 h.2.2.2.1 h.2.2.2.2.1 h.2.2.2.2.2
theorem xA6_0.{u0,u1,u2,u3,u4,u5} {α0:Sort u0} {α1:Sort u1} {α2:Sort u2} {α3:Sort u3} {α4:Sort u4} {α5:Sort u5} {p0:α0 -> α1 -> α2 -> α3 -> α4 -> α5 -> Prop} {g:Prop} (h:∃ a0 a1 a2 a3 a4 a5,p0 a0 a1 a2 a3 a4 a5) (k:∀ a0 a1 a2 a3 a4 a5,p0 a0 a1 a2 a3 a4 a5 -> g):g:=h.elim fun a0 h=>h.elim fun a1 h=>h.elim fun a2 h=>h.elim fun a3 h=>h.elim fun a4 h=>h.elim fun a5 h=>k a0 a1 a2 a3 a4 a5 h
theorem xA6_7.{u0,u1,u2,u3,u4,u5} {α0:Sort u0} {α1:Sort u1} {α2:Sort u2} {α3:Sort u3} {α4:Sort u4} {α5:Sort u5} {p0 p1 p2 p3 p4 p5 p6 p7:α0 -> α1 -> α2 -> α3 -> α4 -> α5 -> Prop} {g:Prop} (h:∃ a0 a1 a2 a3 a4 a5,p0 a0 a1 a2 a3 a4 a5 /\ p1 a0 a1 a2 a3 a4 a5 /\ p2 a0 a1 a2 a3 a4 a5 /\ p3 a0 a1 a2 a3 a4 a5 /\ p4 a0 a1 a2 a3 a4 a5 /\ p5 a0 a1 a2 a3 a4 a5 /\ p6 a0 a1 a2 a3 a4 a5 /\ p7 a0 a1 a2 a3 a4 a5) (k:∀ a0 a1 a2 a3 a4 a5,p0 a0 a1 a2 a3 a4 a5 -> p1 a0 a1 a2 a3 a4 a5 -> p2 a0 a1 a2 a3 a4 a5 -> p3 a0 a1 a2 a3 a4 a5 -> p4 a0 a1 a2 a3 a4 a5 -> p5 a0 a1 a2 a3 a4 a5 -> p6 a0 a1 a2 a3 a4 a5 -> p7 a0 a1 a2 a3 a4 a5 -> g):g:=h.elim fun a0 h=>h.elim fun a1 h=>h.elim fun a2 h=>h.elim fun a3 h=>h.elim fun a4 h=>h.elim fun a5 h=>k a0 a1 a2 a3 a4 a5 h.1 h.2.1 h.2.2.1 h.2.2.2.1 h.2.2.2.2.1 h.2.2.2.2.2.1 h.2.2.2.2.2.2.1 h.2.2.2.2.2.2.2
theorem xA6_10.{u0,u1,u2,u3,u4,u5} {α0:Sort u0} {α1:Sort u1} {α2:Sort u2} {α3:Sort u3} {α4:Sort u4} {α5:Sort u5} {p0 p1 p2 p3 p4 p5 p6 p7 p8 p9 p10:α0 -> α1 -> α2 -> α3 -> α4 -> α5 -> Prop} {g:Prop} (h:∃ a0 a1 a2 a3 a4 a5,p0 a0 a1 a2 a3 a4 a5 /\ p1 a0 a1 a2 a3 a4 a5 /\ p2 a0 a1 a2 a3 a4 a5 /\ p3 a0 a1 a2 a3 a4 a5 /\ p4 a0 a1 a2 a3 a4 a5 /\ p5 a0 a1 a2 a3 a4 a5 /\ p6 a0 a1 a2 a3 a4 a5 /\ p7 a0 a1 a2 a3 a4 a5 /\ p8 a0 a1 a2 a3 a4 a5 /\ p9 a0 a1 a2 a3 a4 a5 /\ p10 a0 a1 a2 a3 a4 a5) (k:∀ a0 a1 a2 a3 a4 a5,p0 a0 a1 a2 a3 a4 a5 -> p1 a0 a1 a2 a3 a4 a5 -> p2 a0 a1 a2 a3 a4 a5 -> p3 a0 a1 a2 a3 a4 a5 -> p4 a0 a1 a2 a3 a4 a5 -> p5 a0 a1 a2 a3 a4 a5 -> p6 a0 a1 a2 a3 a4 a5 -> p7 a0 a1 a2 a3 a4 a5 -> p8 a0 a1 a2 a3 a4 a5 -> p9 a0 a1 a2 a3 a4 a5 -> p10 a0 a1 a2 a3 a4 a5 -> g):g:=h.elim fun a0 h=>h.elim fun a1 h=>h.elim fun a2 h=>h.elim fun a3 h=>h.elim fun a4 h=>h.elim fun a5 h=>k a0 a1 a2 a3 a4 a5 h.1 h.2.1 h.2.2.1 h.2.2.2.1 h.2.2.2.2.1 h.2.2.2.2.2.1 h.2.2.2.2.2.2.1 h.2.2.2.2.2.2.2.1 h.2.2.2.2.2.2.2.2.1 h.2.2.2.2.2.2.2.2.2.1 h.2.2.2.2.2.2.2.2.2.2
theorem xA7_0.{u0,u1,u2,u3,u4,u5,u6} {α0:Sort u0} {α1:Sort u1} {α2:Sort u2} {α3:Sort u3} {α4:Sort u4} {α5:Sort u5} {α6:Sort u6} {p0:α0 -> α1 -> α2 -> α3 -> α4 -> α5 -> α6 -> Prop} {g:Prop} (h:∃ a0 a1 a2 a3 a4 a5 a6,p0 a0 a1 a2 a3 a4 a5 a6) (k:∀ a0 a1 a2 a3 a4 a5 a6,p0 a0 a1 a2 a3 a4 a5 a6 -> g):g:=h.elim fun a0 h=>h.elim fun a1 h=>h.elim fun a2 h=>h.elim fun a3 h=>h.elim fun a4 h=>h.elim fun a5 h=>h.elim fun a6 h=>k a0 a1 a2 a3 a4 a5 a6 h
theorem xA7_2.{u0,u1,u2,u3,u4,u5,u6} {α0:Sort u0} {α1:Sort u1} {α2:Sort u2} {α3:Sort u3} {α4:Sort u4} {α5:Sort u5} {α6:Sort u6} {p0 p1 p2:α0 -> α1 -> α2 -> α3 -> α4 -> α5 -> α6 -> Prop} {g:Prop} (h:∃ a0 a1 a2 a3 a4 a5 a6,p0 a0 a1 a2 a3 a4 a5 a6 /\ p1 a0 a1 a2 a3 a4 a5 a6 /\ p2 a0 a1 a2 a3 a4 a5 a6) (k:∀ a0 a1 a2 a3 a4 a5 a6,p0 a0 a1 a2 a3 a4 a5 a6 -> p1 a0 a1 a2 a3 a4 a5 a6 -> p2 a0 a1 a2 a3 a4 a5 a6 -> g):g:=h.elim fun a0 h=>h.elim fun a1 h=>h.elim fun a2 h=>h.elim fun a3 h=>h.elim fun a4 h=>h.elim fun a5 h=>h.elim fun a6 h=>k a0 a1 a2 a3 a4 a5 a6 h.1 h.2.1 h.2.2
theorem xA8_0.{u0,u1,u2,u3,u4,u5,u6,u7} {α0:Sort u0} {α1:Sort u1} {α2:Sort u2} {α3:Sort u3} {α4:Sort u4} {α5:Sort u5} {α6:Sort u6} {α7:Sort u7} {p0:α0 -> α1 -> α2 -> α3 -> α4 -> α5 -> α6 -> α7 -> Prop} {g:Prop} (h:∃ a0 a1 a2 a3 a4 a5 a6 a7,p0 a0 a1 a2 a3 a4 a5 a6 a7) (k:∀ a0 a1 a2 a3 a4 a5 a6 a7,p0 a0 a1 a2 a3 a4 a5 a6 a7 -> g):g:=h.elim fun a0 h=>h.elim fun a1 h=>h.elim fun a2 h=>h.elim fun a3 h=>h.elim fun a4 h=>h.elim fun a5 h=>h.elim fun a6 h=>h.elim fun a7 h=>k a0 a1 a2 a3 a4 a5 a6 a7 h
theorem xA9_0.{u0,u1,u2,u3,u4,u5,u6,u7,u8} {α0:Sort u0} {α1:Sort u1} {α2:Sort u2} {α3:Sort u3} {α4:Sort u4} {α5:Sort u5} {α6:Sort u6} {α7:Sort u7} {α8:Sort u8} {p0:α0 -> α1 -> α2 -> α3 -> α4 -> α5 -> α6 -> α7 -> α8 -> Prop} {g:Prop} (h:∃ a0 a1 a2 a3 a4 a5 a6 a7 a8,p0 a0 a1 a2 a3 a4 a5 a6 a7 a8) (k:∀ a0 a1 a2 a3 a4 a5 a6 a7 a8,p0 a0 a1 a2 a3 a4 a5 a6 a7 a8 -> g):g:=h.elim fun a0 h=>h.elim fun a1 h=>h.elim fun a2 h=>h.elim fun a3 h=>h.elim fun a4 h=>h.elim fun a5 h=>h.elim fun a6 h=>h.elim fun a7 h=>h.elim fun a8 h=>k a0 a1 a2 a3 a4 a5 a6 a7 a8 h
theorem xA10_0.{u0,u1,u2,u3,u4,u5,u6,u7,u8,u9} {α0:Sort u0} {α1:Sort u1} {α2:Sort u2} {α3:Sort u3} {α4:Sort u4} {α5:Sort u5} {α6:Sort u6} {α7:Sort u7} {α8:Sort u8} {α9:Sort u9} {p0:α0 -> α1 -> α2 -> α3 -> α4 -> α5 -> α6 -> α7 -> α8 -> α9 -> Prop} {g:Prop} (h:∃ a0 a1 a2 a3 a4 a5 a6 a7 a8 a9,p0 a0 a1 a2 a3 a4 a5 a6 a7 a8 a9) (k:∀ a0 a1 a2 a3 a4 a5 a6 a7 a8 a9,p0 a0 a1 a2 a3 a4 a5 a6 a7 a8 a9 -> g):g:=h.elim fun a0 h=>h.elim fun a1 h=>h.elim fun a2 h=>h.elim fun a3 h=>h.elim fun a4 h=>h.elim fun a5 h=>h.elim fun a6 h=>h.elim fun a7 h=>h.elim fun a8 h=>h.elim fun a9 h=>k a0 a1 a2 a3 a4 a5 a6 a7 a8 a9 h
theorem xA14_0.{u0,u1,u2,u3,u4,u5,u6,u7,u8,u9,u10,u11,u12,u13} {α0:Sort u0} {α1:Sort u1} {α2:Sort u2} {α3:Sort u3} {α4:Sort u4} {α5:Sort u5} {α6:Sort u6} {α7:Sort u7} {α8:Sort u8} {α9:Sort u9} {α10:Sort u10} {α11:Sort u11} {α12:Sort u12} {α13:Sort u13} {p0:α0 -> α1 -> α2 -> α3 -> α4 -> α5 -> α6 -> α7 -> α8 -> α9 -> α10 -> α11 -> α12 -> α13 -> Prop} {g:Prop} (h:∃ a0 a1 a2 a3 a4 a5 a6 a7 a8 a9 a10 a11 a12 a13,p0 a0 a1 a2 a3 a4 a5 a6 a7 a8 a9 a10 a11 a12 a13) (k:∀ a0 a1 a2 a3 a4 a5 a6 a7 a8 a9 a10 a11 a12 a13,p0 a0 a1 a2 a3 a4 a5 a6 a7 a8 a9 a10 a11 a12 a13 -> g):g:=h.elim fun a0 h=>h.elim fun a1 h=>h.elim fun a2 h=>h.elim fun a3 h=>h.elim fun a4 h=>h.elim fun a5 h=>h.elim fun a6 h=>h.elim fun a7 h=>h.elim fun a8 h=>h.elim fun a9 h=>h.elim fun a10 h=>h.elim fun a11 h=>h.elim fun a12 h=>h.elim fun a13 h=>k a0 a1 a2 a3 a4 a5 a6 a7 a8 a9 a10 a11 a12 a13 h
theorem xI0_2  {p0 p1 p2:Prop}  (h0:p0) (h1:p1) (h2:p2):p0 /\ p1 /\ p2:=⟨h0,h1,h2⟩
theorem xI0_3  {p0 p1 p2 p3:Prop}  (h0:p0) (h1:p1) (h2:p2) (h3:p3):p0 /\ p1 /\ p2 /\ p3:=⟨h0,h1,h2,h3⟩
theorem xI0_4  {p0 p1 p2 p3 p4:Prop}  (h0:p0) (h1:p1) (h2:p2) (h3:p3) (h4:p4):p0 /\ p1 /\ p2 /\ p3 /\ p4:=⟨h0,h1,h2,h3,h4⟩
theorem xI1_1.{u0} {α0:Sort u0} {p0 p1:α0 -> Prop} (a0:α0) (h0:p0 a0) (h1:p1 a0):∃ a0,p0 a0 /\ p1 a0:=⟨a0,h0,h1⟩
theorem xI1_2.{u0} {α0:Sort u0} {p0 p1 p2:α0 -> Prop} (a0:α0) (h0:p0 a0) (h1:p1 a0) (h2:p2 a0):∃ a0,p0 a0 /\ p1 a0 /\ p2 a0:=⟨a0,h0,h1,h2⟩
theorem xI1_3.{u0} {α0:Sort u0} {p0 p1 p2 p3:α0 -> Prop} (a0:α0) (h0:p0 a0) (h1:p1 a0) (h2:p2 a0) (h3:p3 a0):∃ a0,p0 a0 /\ p1 a0 /\ p2 a0 /\ p3 a0:=⟨a0,h0,h1,h2,h3⟩
theorem xI2_0.{u0,u1} {α0:Sort u0} {α1:Sort u1} {p0:α0 -> α1 -> Prop} (a0:α0) (a1:α1) (h0:p0 a0 a1):∃ a0 a1,p0 a0 a1:=⟨a0,a1,h0⟩
theorem xI2_1.{u0,u1} {α0:Sort u0} {α1:Sort u1} {p0 p1:α0 -> α1 -> Prop} (a0:α0) (a1:α1) (h0:p0 a0 a1) (h1:p1 a0 a1):∃ a0 a1,p0 a0 a1 /\ p1 a0 a1:=⟨a0,a1,h0,h1⟩
theorem xI2_2.{u0,u1} {α0:Sort u0} {α1:Sort u1} {p0 p1 p2:α0 -> α1 -> Prop} (a0:α0) (a1:α1) (h0:p0 a0 a1) (h1:p1 a0 a1) (h2:p2 a0 a1):∃ a0 a1,p0 a0 a1 /\ p1 a0 a1 /\ p2 a0 a1:=⟨a0,a1,h0,h1,h2⟩
theorem xI2_3.{u0,u1} {α0:Sort u0} {α1:Sort u1} {p0 p1 p2 p3:α0 -> α1 -> Prop} (a0:α0) (a1:α1) (h0:p0 a0 a1) (h1:p1 a0 a1) (h2:p2 a0 a1) (h3:p3 a0 a1):∃ a0 a1,p0 a0 a1 /\ p1 a0 a1 /\ p2 a0 a1 /\ p3 a0 a1:=⟨a0,a1,h0,h1,h2,h3⟩
theorem xI2_4.{u0,u1} {α0:Sort u0} {α1:Sort u1} {p0 p1 p2 p3 p4:α0 -> α1 -> Prop} (a0:α0) (a1:α1) (h0:p0 a0 a1) (h1:p1 a0 a1) (h2:p2 a0 a1) (h3:p3 a0 a1) (h4:p4 a0 a1):∃ a0 a1,p0 a0 a1 /\ p1 a0 a1 /\ p2 a0 a1 /\ p3 a0 a1 /\ p4 a0 a1:=⟨a0,a1,h0,h1,h2,h3,h4⟩
theorem xI2_7.{u0,u1} {α0:Sort u0} {α1:Sort u1} {p0 p1 p2 p3 p4 p5 p6 p7:α0 -> α1 -> Prop} (a0:α0) (a1:α1) (h0:p0 a0 a1) (h1:p1 a0 a1) (h2:p2 a0 a1) (h3:p3 a0 a1) (h4:p4 a0 a1) (h5:p5 a0 a1) (h6:p6 a0 a1) (h7:p7 a0 a1):∃ a0 a1,p0 a0 a1 /\ p1 a0 a1 /\ p2 a0 a1 /\ p3 a0 a1 /\ p4 a0 a1 /\ p5 a0 a1 /\ p6 a0 a1 /\ p7 a0 a1:=⟨a0,a1,h0,h1,h2,h3,h4,h5,h6,h7⟩
theorem xI3_2.{u0,u1,u2} {α0:Sort u0} {α1:Sort u1} {α2:Sort u2} {p0 p1 p2:α0 -> α1 -> α2 -> Prop} (a0:α0) (a1:α1) (a2:α2) (h0:p0 a0 a1 a2) (h1:p1 a0 a1 a2) (h2:p2 a0 a1 a2):∃ a0 a1 a2,p0 a0 a1 a2 /\ p1 a0 a1 a2 /\ p2 a0 a1 a2:=⟨a0,a1,a2,h0,h1,h2⟩
theorem xI3_3.{u0,u1,u2} {α0:Sort u0} {α1:Sort u1} {α2:Sort u2} {p0 p1 p2 p3:α0 -> α1 -> α2 -> Prop} (a0:α0) (a1:α1) (a2:α2) (h0:p0 a0 a1 a2) (h1:p1 a0 a1 a2) (h2:p2 a0 a1 a2) (h3:p3 a0 a1 a2):∃ a0 a1 a2,p0 a0 a1 a2 /\ p1 a0 a1 a2 /\ p2 a0 a1 a2 /\ p3 a0 a1 a2:=⟨a0,a1,a2,h0,h1,h2,h3⟩
theorem xI3_4.{u0,u1,u2} {α0:Sort u0} {α1:Sort u1} {α2:Sort u2} {p0 p1 p2 p3 p4:α0 -> α1 -> α2 -> Prop} (a0:α0) (a1:α1) (a2:α2) (h0:p0 a0 a1 a2) (h1:p1 a0 a1 a2) (h2:p2 a0 a1 a2) (h3:p3 a0 a1 a2) (h4:p4 a0 a1 a2):∃ a0 a1 a2,p0 a0 a1 a2 /\ p1 a0 a1 a2 /\ p2 a0 a1 a2 /\ p3 a0 a1 a2 /\ p4 a0 a1 a2:=⟨a0,a1,a2,h0,h1,h2,h3,h4⟩
theorem xI3_5.{u0,u1,u2} {α0:Sort u0} {α1:Sort u1} {α2:Sort u2} {p0 p1 p2 p3 p4 p5:α0 -> α1 -> α2 -> Prop} (a0:α0) (a1:α1) (a2:α2) (h0:p0 a0 a1 a2) (h1:p1 a0 a1 a2) (h2:p2 a0 a1 a2) (h3:p3 a0 a1 a2) (h4:p4 a0 a1 a2) (h5:p5 a0 a1 a2):∃ a0 a1 a2,p0 a0 a1 a2 /\ p1 a0 a1 a2 /\ p2 a0 a1 a2 /\ p3 a0 a1 a2 /\ p4 a0 a1 a2 /\ p5 a0 a1 a2:=⟨a0,a1,a2,h0,h1,h2,h3,h4,h5⟩
theorem xI4_2.{u0,u1,u2,u3} {α0:Sort u0} {α1:Sort u1} {α2:Sort u2} {α3:Sort u3} {p0 p1 p2:α0 -> α1 -> α2 -> α3 -> Prop} (a0:α0) (a1:α1) (a2:α2) (a3:α3) (h0:p0 a0 a1 a2 a3) (h1:p1 a0 a1 a2 a3) (h2:p2 a0 a1 a2 a3):∃ a0 a1 a2 a3,p0 a0 a1 a2 a3 /\ p1 a0 a1 a2 a3 /\ p2 a0 a1 a2 a3:=⟨a0,a1,a2,a3,h0,h1,h2⟩
theorem xI4_3.{u0,u1,u2,u3} {α0:Sort u0} {α1:Sort u1} {α2:Sort u2} {α3:Sort u3} {p0 p1 p2 p3:α0 -> α1 -> α2 -> α3 -> Prop} (a0:α0) (a1:α1) (a2:α2) (a3:α3) (h0:p0 a0 a1 a2 a3) (h1:p1 a0 a1 a2 a3) (h2:p2 a0 a1 a2 a3) (h3:p3 a0 a1 a2 a3):∃ a0 a1 a2 a3,p0 a0 a1 a2 a3 /\ p1 a0 a1 a2 a3 /\ p2 a0 a1 a2 a3 /\ p3 a0 a1 a2 a3:=⟨a0,a1,a2,a3,h0,h1,h2,h3⟩
theorem xI4_5.{u0,u1,u2,u3} {α0:Sort u0} {α1:Sort u1} {α2:Sort u2} {α3:Sort u3} {p0 p1 p2 p3 p4 p5:α0 -> α1 -> α2 -> α3 -> Prop} (a0:α0) (a1:α1) (a2:α2) (a3:α3) (h0:p0 a0 a1 a2 a3) (h1:p1 a0 a1 a2 a3) (h2:p2 a0 a1 a2 a3) (h3:p3 a0 a1 a2 a3) (h4:p4 a0 a1 a2 a3) (h5:p5 a0 a1 a2 a3):∃ a0 a1 a2 a3,p0 a0 a1 a2 a3 /\ p1 a0 a1 a2 a3 /\ p2 a0 a1 a2 a3 /\ p3 a0 a1 a2 a3 /\ p4 a0 a1 a2 a3 /\ p5 a0 a1 a2 a3:=⟨a0,a1,a2,a3,h0,h1,h2,h3,h4,h5⟩
theorem xI5_4.{u0,u1,u2,u3,u4} {α0:Sort u0} {α1:Sort u1} {α2:Sort u2} {α3:Sort u3} {α4:Sort u4} {p0 p1 p2 p3 p4:α0 -> α1 -> α2 -> α3 -> α4 -> Prop} (a0:α0) (a1:α1) (a2:α2) (a3:α3) (a4:α4) (h0:p0 a0 a1 a2 a3 a4) (h1:p1 a0 a1 a2 a3 a4) (h2:p2 a0 a1 a2 a3 a4) (h3:p3 a0 a1 a2 a3 a4) (h4:p4 a0 a1 a2 a3 a4):∃ a0 a1 a2 a3 a4,p0 a0 a1 a2 a3 a4 /\ p1 a0 a1 a2 a3 a4 /\ p2 a0 a1 a2 a3 a4 /\ p3 a0 a1 a2 a3 a4 /\ p4 a0 a1 a2 a3 a4:=⟨a0,a1,a2,a3,a4,h0,h1,h2,h3,h4⟩
theorem xI5_6.{u0,u1,u2,u3,u4} {α0:Sort u0} {α1:Sort u1} {α2:Sort u2} {α3:Sort u3} {α4:Sort u4} {p0 p1 p2 p3 p4 p5 p6:α0 -> α1 -> α2 -> α3 -> α4 -> Prop} (a0:α0) (a1:α1) (a2:α2) (a3:α3) (a4:α4) (h0:p0 a0 a1 a2 a3 a4) (h1:p1 a0 a1 a2 a3 a4) (h2:p2 a0 a1 a2 a3 a4) (h3:p3 a0 a1 a2 a3 a4) (h4:p4 a0 a1 a2 a3 a4) (h5:p5 a0 a1 a2 a3 a4) (h6:p6 a0 a1 a2 a3 a4):∃ a0 a1 a2 a3 a4,p0 a0 a1 a2 a3 a4 /\ p1 a0 a1 a2 a3 a4 /\ p2 a0 a1 a2 a3 a4 /\ p3 a0 a1 a2 a3 a4 /\ p4 a0 a1 a2 a3 a4 /\ p5 a0 a1 a2 a3 a4 /\ p6 a0 a1 a2 a3 a4:=⟨a0,a1,a2,a3,a4,h0,h1,h2,h3,h4,h5,h6⟩
theorem xI5_7.{u0,u1,u2,u3,u4} {α0:Sort u0} {α1:Sort u1} {α2:Sort u2} {α3:Sort u3} {α4:Sort u4} {p0 p1 p2 p3 p4 p5 p6 p7:α0 -> α1 -> α2 -> α3 -> α4 -> Prop} (a0:α0) (a1:α1) (a2:α2) (a3:α3) (a4:α4) (h0:p0 a0 a1 a2 a3 a4) (h1:p1 a0 a1 a2 a3 a4) (h2:p2 a0 a1 a2 a3 a4) (h3:p3 a0 a1 a2 a3 a4) (h4:p4 a0 a1 a2 a3 a4) (h5:p5 a0 a1 a2 a3 a4) (h6:p6 a0 a1 a2 a3 a4) (h7:p7 a0 a1 a2 a3 a4):∃ a0 a1 a2 a3 a4,p0 a0 a1 a2 a3 a4 /\ p1 a0 a1 a2 a3 a4 /\ p2 a0 a1 a2 a3 a4 /\ p3 a0 a1 a2 a3 a4 /\ p4 a0 a1 a2 a3 a4 /\ p5 a0 a1 a2 a3 a4 /\ p6 a0 a1 a2 a3 a4 /\ p7 a0 a1 a2 a3 a4:=⟨a0,a1,a2,a3,a4,h0,h1,h2,h3,h4,h5,h6,h7⟩
theorem xI5_8.{u0,u1,u2,u3,u4} {α0:Sort u0} {α1:Sort u1} {α2:Sort u2} {α3:Sort u3} {α4:Sort u4} {p0 p1 p2 p3 p4 p5 p6 p7 p8:α0 -> α1 -> α2 -> α3 -> α4 -> Prop} (a0:α0) (a1:α1) (a2:α2) (a3:α3) (a4:α4) (h0:p0 a0 a1 a2 a3 a4) (h1:p1 a0 a1 a2 a3 a4) (h2:p2 a0 a1 a2 a3 a4) (h3:p3 a0 a1 a2 a3 a4) (h4:p4 a0 a1 a2 a3 a4) (h5:p5 a0 a1 a2 a3 a4) (h6:p6 a0 a1 a2 a3 a4) (h7:p7 a0 a1 a2 a3 a4) (h8:p8 a0 a1 a2 a3 a4):∃ a0 a1 a2 a3 a4,p0 a0 a1 a2 a3 a4 /\ p1 a0 a1 a2 a3 a4 /\ p2 a0 a1 a2 a3 a4 /\ p3 a0 a1 a2 a3 a4 /\ p4 a0 a1 a2 a3 a4 /\ p5 a0 a1 a2 a3 a4 /\ p6 a0 a1 a2 a3 a4 /\ p7 a0 a1 a2 a3 a4 /\ p8 a0 a1 a2 a3 a4:=⟨a0,a1,a2,a3,a4,h0,h1,h2,h3,h4,h5,h6,h7,h8⟩
theorem xI6_3.{u0,u1,u2,u3,u4,u5} {α0:Sort u0} {α1:Sort u1} {α2:Sort u2} {α3:Sort u3} {α4:Sort u4} {α5:Sort u5} {p0 p1 p2 p3:α0 -> α1 -> α2 -> α3 -> α4 -> α5 -> Prop} (a0:α0) (a1:α1) (a2:α2) (a3:α3) (a4:α4) (a5:α5) (h0:p0 a0 a1 a2 a3 a4 a5) (h1:p1 a0 a1 a2 a3 a4 a5) (h2:p2 a0 a1 a2 a3 a4 a5) (h3:p3 a0 a1 a2 a3 a4 a5):∃ a0 a1 a2 a3 a4 a5,p0 a0 a1 a2 a3 a4 a5 /\ p1 a0 a1 a2 a3 a4 a5 /\ p2 a0 a1 a2 a3 a4 a5 /\ p3 a0 a1 a2 a3 a4 a5:=⟨a0,a1,a2,a3,a4,a5,h0,h1,h2,h3⟩
theorem xI6_7.{u0,u1,u2,u3,u4,u5} {α0:Sort u0} {α1:Sort u1} {α2:Sort u2} {α3:Sort u3} {α4:Sort u4} {α5:Sort u5} {p0 p1 p2 p3 p4 p5 p6 p7:α0 -> α1 -> α2 -> α3 -> α4 -> α5 -> Prop} (a0:α0) (a1:α1) (a2:α2) (a3:α3) (a4:α4) (a5:α5) (h0:p0 a0 a1 a2 a3 a4 a5) (h1:p1 a0 a1 a2 a3 a4 a5) (h2:p2 a0 a1 a2 a3 a4 a5) (h3:p3 a0 a1 a2 a3 a4 a5) (h4:p4 a0 a1 a2 a3 a4 a5) (h5:p5 a0 a1 a2 a3 a4 a5) (h6:p6 a0 a1 a2 a3 a4 a5) (h7:p7 a0 a1 a2 a3 a4 a5):∃ a0 a1 a2 a3 a4 a5,p0 a0 a1 a2 a3 a4 a5 /\ p1 a0 a1 a2 a3 a4 a5 /\ p2 a0 a1 a2 a3 a4 a5 /\ p3 a0 a1 a2 a3 a4 a5 /\ p4 a0 a1 a2 a3 a4 a5 /\ p5 a0 a1 a2 a3 a4 a5 /\ p6 a0 a1 a2 a3 a4 a5 /\ p7 a0 a1 a2 a3 a4 a5:=⟨a0,a1,a2,a3,a4,a5,h0,h1,h2,h3,h4,h5,h6,h7⟩
theorem xI6_8.{u0,u1,u2,u3,u4,u5} {α0:Sort u0} {α1:Sort u1} {α2:Sort u2} {α3:Sort u3} {α4:Sort u4} {α5:Sort u5} {p0 p1 p2 p3 p4 p5 p6 p7 p8:α0 -> α1 -> α2 -> α3 -> α4 -> α5 -> Prop} (a0:α0) (a1:α1) (a2:α2) (a3:α3) (a4:α4) (a5:α5) (h0:p0 a0 a1 a2 a3 a4 a5) (h1:p1 a0 a1 a2 a3 a4 a5) (h2:p2 a0 a1 a2 a3 a4 a5) (h3:p3 a0 a1 a2 a3 a4 a5) (h4:p4 a0 a1 a2 a3 a4 a5) (h5:p5 a0 a1 a2 a3 a4 a5) (h6:p6 a0 a1 a2 a3 a4 a5) (h7:p7 a0 a1 a2 a3 a4 a5) (h8:p8 a0 a1 a2 a3 a4 a5):∃ a0 a1 a2 a3 a4 a5,p0 a0 a1 a2 a3 a4 a5 /\ p1 a0 a1 a2 a3 a4 a5 /\ p2 a0 a1 a2 a3 a4 a5 /\ p3 a0 a1 a2 a3 a4 a5 /\ p4 a0 a1 a2 a3 a4 a5 /\ p5 a0 a1 a2 a3 a4 a5 /\ p6 a0 a1 a2 a3 a4 a5 /\ p7 a0 a1 a2 a3 a4 a5 /\ p8 a0 a1 a2 a3 a4 a5:=⟨a0,a1,a2,a3,a4,a5,h0,h1,h2,h3,h4,h5,h6,h7,h8⟩
theorem xI6_10.{u0,u1,u2,u3,u4,u5} {α0:Sort u0} {α1:Sort u1} {α2:Sort u2} {α3:Sort u3} {α4:Sort u4} {α5:Sort u5} {p0 p1 p2 p3 p4 p5 p6 p7 p8 p9 p10:α0 -> α1 -> α2 -> α3 -> α4 -> α5 -> Prop} (a0:α0) (a1:α1) (a2:α2) (a3:α3) (a4:α4) (a5:α5) (h0:p0 a0 a1 a2 a3 a4 a5) (h1:p1 a0 a1 a2 a3 a4 a5) (h2:p2 a0 a1 a2 a3 a4 a5) (h3:p3 a0 a1 a2 a3 a4 a5) (h4:p4 a0 a1 a2 a3 a4 a5) (h5:p5 a0 a1 a2 a3 a4 a5) (h6:p6 a0 a1 a2 a3 a4 a5) (h7:p7 a0 a1 a2 a3 a4 a5) (h8:p8 a0 a1 a2 a3 a4 a5) (h9:p9 a0 a1 a2 a3 a4 a5) (h10:p10 a0 a1 a2 a3 a4 a5):∃ a0 a1 a2 a3 a4 a5,p0 a0 a1 a2 a3 a4 a5 /\ p1 a0 a1 a2 a3 a4 a5 /\ p2 a0 a1 a2 a3 a4 a5 /\ p3 a0 a1 a2 a3 a4 a5 /\ p4 a0 a1 a2 a3 a4 a5 /\ p5 a0 a1 a2 a3 a4 a5 /\ p6 a0 a1 a2 a3 a4 a5 /\ p7 a0 a1 a2 a3 a4 a5 /\ p8 a0 a1 a2 a3 a4 a5 /\ p9 a0 a1 a2 a3 a4 a5 /\ p10 a0 a1 a2 a3 a4 a5:=⟨a0,a1,a2,a3,a4,a5,h0,h1,h2,h3,h4,h5,h6,h7,h8,h9,h10⟩
theorem xI7_7.{u0,u1,u2,u3,u4,u5,u6} {α0:Sort u0} {α1:Sort u1} {α2:Sort u2} {α3:Sort u3} {α4:Sort u4} {α5:Sort u5} {α6:Sort u6} {p0 p1 p2 p3 p4 p5 p6 p7:α0 -> α1 -> α2 -> α3 -> α4 -> α5 -> α6 -> Prop} (a0:α0) (a1:α1) (a2:α2) (a3:α3) (a4:α4) (a5:α5) (a6:α6) (h0:p0 a0 a1 a2 a3 a4 a5 a6) (h1:p1 a0 a1 a2 a3 a4 a5 a6) (h2:p2 a0 a1 a2 a3 a4 a5 a6) (h3:p3 a0 a1 a2 a3 a4 a5 a6) (h4:p4 a0 a1 a2 a3 a4 a5 a6) (h5:p5 a0 a1 a2 a3 a4 a5 a6) (h6:p6 a0 a1 a2 a3 a4 a5 a6) (h7:p7 a0 a1 a2 a3 a4 a5 a6):∃ a0 a1 a2 a3 a4 a5 a6,p0 a0 a1 a2 a3 a4 a5 a6 /\ p1 a0 a1 a2 a3 a4 a5 a6 /\ p2 a0 a1 a2 a3 a4 a5 a6 /\ p3 a0 a1 a2 a3 a4 a5 a6 /\ p4 a0 a1 a2 a3 a4 a5 a6 /\ p5 a0 a1 a2 a3 a4 a5 a6 /\ p6 a0 a1 a2 a3 a4 a5 a6 /\ p7 a0 a1 a2 a3 a4 a5 a6:=⟨a0,a1,a2,a3,a4,a5,a6,h0,h1,h2,h3,h4,h5,h6,h7⟩
theorem oA0 {a:Int} {b:Nat} (h:0 < a /\ a <= (b: Int)):0 < a /\ a <= (↑(b + 1): Int):=by lia
theorem oA1 {a:Int} {b:Nat} (h:1 <= a /\ a + (↑(b + 1): Int) <= 11):a + 1 <= 11:=by lia
theorem oA2 {a:Int} {b:Nat}:a + (b: Int) = a + (↑(b + 0): Int):=(Int.add_left_inj ↑b).mpr rfl
theorem oA3 {a:Int} {b:Nat} (h:a + 1 - 0 = (↑(b / 8 + 1): Int)):a + 1 = (↑(b / 8 + 1): Int):=(Int.add_left_inj (-0)).mp h
theorem oA4 {a:Int} {b:Nat} (h:a = (↑(b + 1): Int)):0 < a /\ a <= (↑(b + 1): Int):=by omega
theorem oA5 {a:Int} {b:Nat} (h:a = (b: Int)):((b: Int) - 0).toNat = b:=PyProof.Rows.lenZ b
theorem oA6 {a:Int} {b:Nat} (h:a = (b: Int)):a.toNat = b:=by lia
theorem oA7 {a:Int} {b:Nat} (h:a <= 11) (h_1:(b: Int) <= a):(b: Int) < 2 ^ 60:=by lia
theorem oA8 {a:Int} {b:Nat} (h:a <= 11) (h_1:a = (b: Int)):b + 1 <= 100000:=by lia
theorem oA9 {a:Int} {b:Nat} (h:a <= 11) (h_1:a = (b: Int)):b <= 100:=by lia
theorem oA10 {a:Int} {b:Nat} (h:a <= 11) (h_1:a = (b: Int)):b <= 11:=by lia
theorem oA11 {a:Int} {b:Nat} (h:a <= 11) (h_1:b + 1 <= a.toNat):(↑(b + 1): Int) < 2 ^ 60:=by lia
theorem oA12 {a:Int} {b:Nat} (h:a.toNat < b):a < (b: Int):=Int.lt_of_toNat_lt h
theorem oA13 {a:Int} {b c:Nat}:(a - (b: Int)) * 2 - (c: Int) = a * 2 - (↑(2 * b + c): Int):=by lia
theorem oA14 {a:Int} {b c:Nat} (h:a = (b: Int)) (h_1:(c: Int) <= a):(c: Int) < (↑(b + 1): Int):=by lia
theorem oA15 {a:Int} {b c:Nat} (h:a = (b: Int)) (h_1:(c: Int) <= a):c < b + 1:=by lia
theorem oA16 {a:Int} {b c:Nat} (h:a = (b: Int)) (h_1:(c: Int) <= a):c <= b:=by lia
theorem oA17 {a:Int} {b c:Nat} (h:a <= 11) (h_1:a = (b: Int)):(b: Int) - (↑(b - c): Int) <= 1000:=by lia
theorem oA18 {a:Int} {b c:Nat} (h:a <= 11) (h_1:a = (b: Int)):b - c - 1 < 11:=by omega
theorem oA19 {a:Int} (h:0 < a):0 <= a:=Int.le_of_lt h
theorem oA20 {a:Int} (h:0 <= a):(a + 1).toNat = a.toNat + 1:=PyProof.Rows.toNat_add_one_of_nonneg h
theorem oA21 {a:Int} (h:0 <= a):(a.toNat: Int) = a:=Int.toNat_of_nonneg h
theorem oA22 {a:Int} (h:0 <= a) (h_1:a < 256):0 <= a /\ a < 256:=And.symm ⟨h_1,h⟩
theorem oA23 {a:Int} (h:0 <= a):a = (a.toNat: Int):=Int.eq_natCast_toNat.mpr h
theorem oA24 {a:Int} (h:0 <= a):¬a < 0:=Int.not_lt_of_ge h
theorem oA25 {a:Int} (h:0 <= a /\ a <= 11):-1 <= a + 1 /\ a + 1 <= 12:=by lia
theorem oA26 {a:Int} (h:0 <= a /\ a <= 11):-1 <= a /\ a <= 12:=by lia
theorem oA27 {a:Int} (h:0 <= a /\ a <= 11):-2 ^ 62 < a:=by omega
theorem oA28 {a:Int} (h:0 <= a /\ a <= 11):a < 2 ^ 62:=by omega
theorem oA29 {a:Int} (h:0 <= a /\ a <= 11):a.toNat <= 11:=by lia
theorem oA30 {a:Int} (h:1 <= a):0 < a:=Int.lt_of_add_one_le h
theorem oA31 {a:Int} (h:a < 256):a.toNat < 256:=by lia
theorem oA32 {a:Int} (h:a <= 11):a.toNat <= 11:=Int.toNat_le.mpr h
theorem oA33 {a:Nat} {b:Int} {c:Nat} (h:a = b.toNat + 1) (h_1:c + 1 <= b.toNat):c + 1 < a:=by lia
theorem oA34 {a:Nat} {b:Int} {c d:Nat} (h:a <= 11) (h_1:b <= 11) (h_2:b = (c: Int)):a + (c - d - 1 - a) <= 11:=by omega
theorem oA35 {a:Nat} {b:Int} (h:0 < a) (h_1:b < (a: Int)):b.toNat < a:=(Int.toNat_lt' h).mpr h_1
theorem oA36 {a:Nat} {b:Int} (h:a + 1 <= b.toNat):a <= b.toNat:=Nat.le_of_succ_le h
theorem oA37 {a:Nat} {b:Int} (h:a ≠ b.toNat):¬(a: Int) = b:=ne_of_apply_ne Int.toNat fun a_1=>id (Ne.symm h) (id (Eq.symm a_1))
theorem oA38 {a:Nat} {b:Int} (h:¬a = b.toNat):¬b = (a: Int):=by lia
theorem oA39 {a:Nat} {b c:Int} (h:a = b.toNat + 1) (h_1:c <= b):c.toNat < a:=by lia
theorem oA40 {a:Nat}:((↑(a + 1): Int) - 1).toNat = a:=by lia
theorem oA41 {a:Nat}:((a: Int) + 1 - 0).toNat = a + 1:=Eq.symm (Nat.add_succ a 0)
theorem oA42 {a:Nat}:((a: Int) + 1).toNat = a + 1:=Int.toNat_natCast_add_one
theorem oA43 {a:Nat}:((a: Int) - 0).toNat = a:=PyProof.Rows.lenZ a
theorem oA44 {a:Nat}:(-(-(a: Int) - 1) - 1).toNat = a:=by lia
theorem oA45 {a:Nat}:(↑(8 * a / 8): Int) = (a: Int):=by lia
theorem oA46 {a:Nat}:(↑(a + 1): Int) + 1 = (↑(a + 1 + 1): Int):=Int.ofNat_add_one_out (a + 1)
theorem oA47 {a:Nat}:(↑(a + 1): Int) - 1 = (a: Int):=Int.sub_eq_iff_eq_add.mpr rfl
theorem oA48 {a:Nat}:(↑(a + 1): Int).toNat = a + 1:=Eq.symm (Nat.add_succ a 0)
theorem oA49 {a:Nat}:(↑(a / 8): Int) + 1 - 0 = (↑(a / 8 + 1): Int):=Eq.symm ((fun {a b}=>Int.neg_inj.mp) rfl)
theorem oA50 {a:Nat}:(a: Int) + 1 = (↑(a + 1): Int):=Int.ofNat_add_one_out a
theorem oA51 {a:Nat} (h:(a: Int) = 2048):a = 2048:=Int.ofNat_inj.mp h
theorem oA52 {a:Nat} (h:(a: Int) <= 11):a <= 11:=Int.ofNat_le.mp h
theorem oA53 {a:Nat}:-2 ^ 62 < (a: Int):=Rat.intCast_lt_intCast.mp rfl
theorem oA54 {a:Nat}:0 < (↑(a + 1): Int):=Int.ofNat_succ_pos a
theorem oA55 {a:Nat} (h:0 < (a: Int)):0 < a:=Int.natCast_pos.mp h
theorem oA56 {a:Nat} (h:0 < (a: Int)):1 <= a:=Int.ofNat_le.mp h
theorem oA57 {a:Nat} (h:0 < a):0 < (a: Int):=Int.natCast_pos.mpr h
theorem oA58 {a:Nat} (h:0 < a):a - 1 + 1 = a:=Nat.sub_add_cancel h
theorem oA59 {a:Nat} (h:0 < a):a = a - 1 + 1:=(Nat.sub_eq_iff_eq_add h).mp rfl
theorem oA60 {a:Nat} (h:0 < a):a ≠ 0:=Nat.ne_zero_of_lt h
theorem oA61 {a:Nat} (h:0 < a):¬a = 0:=Nat.ne_zero_of_lt h
theorem oA62 {a:Nat}:0 <= (↑(a + 1): Int):=Int.natCast_nonneg (a + 1)
theorem oA63 {a:Nat}:0 <= (a: Int):=Int.natCast_nonneg a
theorem oA64 {a:Nat}:0 <= (a: Int) + 1:=Int.zero_le_ofNat (a + 1)
theorem oA65 {a:Nat}:1 - a < 2:=Nat.sub_lt_succ 1 a
theorem oA66 {a:Nat} (h:1 < a):a = a - 2 + 2:=(Nat.sub_eq_iff_eq_add h).mp rfl
theorem oA67 {a:Nat} (h:1 < a):¬a - 1 = 0:=Nat.sub_ne_zero_iff_lt.mpr h
theorem oA68 {a:Nat}:1 <= a + 1:=by lia
theorem oA69 {a:Nat} (h:1 <= a):0 < a:=Nat.zero_lt_of_lt h
theorem oA70 {a:Nat} (h:1 <= a):a - 1 + 1 = a:=Nat.sub_add_cancel h
theorem oA71 {a:Nat} (h:1 <= a):a = a - 1 + 1:=(Nat.sub_eq_iff_eq_add h).mp rfl
theorem oA72 {a:Nat} (h:1 <= a):¬a = 0:=Nat.ne_zero_of_lt h
theorem oA73 {a:Nat}:11 - 7 * a <= 11:=Nat.sub_le 11 (7 * a)
theorem oA74 {a:Nat} (h:2 <= a):0 < a:=Nat.zero_lt_of_lt h
theorem oA75 {a:Nat} (h:2 <= a):1 <= a:=Nat.one_le_of_lt h
theorem oA76 {a:Nat}:2047 - a < 2048:=Nat.sub_lt_succ 2047 a
theorem oA77 {a:Nat}:4 - 2 * a <= 4:=Nat.sub_le 4 (2 * a)
theorem oA78 {a:Nat}:40 + 3 * a + 3 <= 40 + 3 * (a + 1):=Nat.le_refl (40 + 3 * a + 3)
theorem oA79 {a:Nat}:8 * (a / 8) <= a:=Nat.mul_div_le a 8
theorem oA80 {a:Nat}:a % 8 < 8:=by lia
theorem oA81 {a:Nat}:a % 8 = 0 ∨ a % 8 = 1 ∨ a % 8 = 2 ∨ a % 8 = 3 ∨ a % 8 = 4 ∨ a % 8 = 5 ∨ a % 8 = 6 ∨ a % 8 = 7:=by lia
theorem oA82 {a:Nat}:a * 2 + 0 = 2 * (a + 0):=by lia
theorem oA83 {a:Nat}:a + 0 * 2 ^ 0 = a:=Nat.add_eq_left.mpr rfl
theorem oA84 {a:Nat}:a + 1 + 1 <= a + 3:=Nat.le_succ (a + 1 + 1)
theorem oA85 {a:Nat} (h:a + 1 <= 10):a <= 10:=Nat.le_of_succ_le h
theorem oA86 {a:Nat} (h:a + 1 <= 11):a <= 11:=Nat.le_of_succ_le h
theorem oA87 {a:Nat} (h:a + 1 <= 3):a <= 3:=Nat.le_of_succ_le h
theorem oA88 {a:Nat} (h:a < 1):a = 0:=Nat.lt_one_iff.mp h
theorem oA89 {a:Nat} (h:a < 11):a + 1 <= 11:=Nat.succ_le_of_lt h
theorem oA90 {a:Nat} (h:a < 11):a <= 11:=Nat.le_of_succ_le h
theorem oA91 {a:Nat} (h:a < 2 ^ 62):(a: Int) < 2 ^ 62:=Int.lt_toNat.mp h
theorem oA92 {a:Nat} (h:a < 2):1 - (a: Int) = (↑(1 - a): Int):=by omega
theorem oA93 {a:Nat} (h:a < 256):0 <= (a: Int) /\ (a: Int) < 256:=by lia
theorem oA94 {a:Nat} (h:a < 4):a <= 3:=Nat.le_of_lt_succ h
theorem oA95 {a:Nat} (h:a < 8):(a: Int) <= 200:=by lia
theorem oA96 {a:Nat} (h:a < 8):a <= 100:=by lia
theorem oA97 {a:Nat} (h:a < 9):a <= 8:=Nat.le_of_lt_succ h
theorem oA98 {a:Nat}:a < a + 1:=Nat.lt_add_one a
theorem oA99 {a:Nat}:a = 0 + a:=by lia
theorem oA100 {a:Nat} (h:a = 255):a < 256:=by lia
theorem oA101 {a:Nat}:a = 8 * (a / 8) + a % 8:=Eq.symm (Nat.div_add_mod a 8)
theorem oA102 {a:Nat} (h:a ≠ 0) (h_1:0 <= -1 + (a: Int)):(-1 + (a: Int)).toNat = a - 1:=by lia
theorem oA103 {a:Nat} (h:a <= 100):(a: Int) < 2 ^ 62:=by lia
theorem oA104 {a:Nat} (h:a <= 100):a + 1 <= 100000:=by lia
theorem oA105 {a:Nat} (h:a <= 100):a <= 100000:=by lia
theorem oA106 {a:Nat} (h:a <= 1000):a <= 100000:=by lia
theorem oA107 {a:Nat} (h:a <= 11):11 - a + a = 11:=Nat.sub_add_cancel h
theorem oA108 {a:Nat} (h:a <= 11):a + (11 - a) = 11:=Nat.add_sub_of_le h
theorem oA109 {a:Nat} (h:a <= 11):a + 1 <= 100000:=by lia
theorem oA110 {a:Nat} (h:a <= 11):a - 1 < 11:=by omega
theorem oA111 {a:Nat} (h:a <= 110):(a: Int) <= 1000:=by lia
theorem oA112 {a:Nat} (h:a <= 15):a <= 100000:=by lia
theorem oA113 {a:Nat} (h:a <= 15):a <= 17:=by lia
theorem oA114 {a:Nat} (h:a <= 15):a <= 60:=by lia
theorem oA115 {a:Nat} (h:a <= 17):a <= 100000:=by lia
theorem oA116 {a:Nat} (h:a <= 17):a <= 60:=by lia
theorem oA117 {a:Nat} (h:a <= 2 ^ 11):(a: Int) < 2 ^ 62:=by lia
theorem oA118 {a:Nat} (h:a <= 200):a <= 1000:=by lia
theorem oA119 {a:Nat} (h:a <= 256 ^ 6):(a: Int) < 2 ^ 62:=by lia
theorem oA120 {a:Nat} (h:a <= 300):¬a > 300:=Nat.not_lt.mpr h
theorem oA121 {a:Nat} (h:a <= 52):a / 8 + 1 <= 100000:=by lia
theorem oA122 {a:Nat} (h:a <= 52):a <= 1000:=by lia
theorem oA123 {a:Nat} (h:a <= 52):a <= 100000:=by lia
theorem oA124 {a:Nat} (h:a <= 60):a <= 100:=by lia
theorem oA125 {a:Nat} (h:a <= 7):a <= 8:=Nat.le_succ_of_le h
theorem oA126 {a:Nat} (h:a <= 8) (h_1:0 = 8 - a):a = 8:=by lia
theorem oA127 {a:Nat} (h:a <= 8):a + (8 - a) = 8:=Nat.add_sub_of_le h
theorem oA128 {a:Nat} (h:a <= 8) (h_1:a < 8):8 - a = 8 - (a + 1) + 1:=by lia
theorem oA129 {a:Nat} (h:a <= 8) (h_1:a ≥ 8):8 - a = 0:=Nat.sub_eq_zero_of_le h_1
theorem oA130 {a:Nat} (h:¬(a: Int) = 0):1 <= a:=Nat.one_le_iff_ne_zero.mpr fun a_1=>h (congrArg Nat.cast a_1)
theorem oA131 {a:Nat} (h:¬(a: Int) = 0):¬a = 0:=Int.ofNat_ne_zero.mp h
theorem oA132 {a:Nat}:¬0 <= -(a: Int) - 1:=by lia
theorem oA133 {a:Nat} (h:¬a = 0):(a: Int) ≠ 0:=Int.ofNat_ne_zero.mpr h
theorem oA134 {a:Nat} (h:¬a = 0):0 < a:=Nat.zero_lt_of_ne_zero h
theorem oA135 {a:Nat} (h:¬a = 0):a = a - 1 + 1:=Eq.symm (Nat.succ_pred_eq_of_ne_zero h)
theorem oA136 {a b:Int} {c:Nat}:a + b + (c: Int) = a + (b + (c: Int)):=Int.add_assoc a b ↑c
theorem oA137 {a b:Int} (h:-2 ^ 60 <= a /\ a < 2 ^ 60 /\ -2 ^ 60 <= b /\ b < 2 ^ 60):((((-2 ^ 63 <= a /\ a < 2 ^ 63) /\ -2 ^ 63 <= b /\ b < 2 ^ 63) /\ -2 ^ 63 <= -1 /\ -1 < 2 ^ 63) /\ -2 ^ 63 <= (↑(a - b).toNat: Int) /\ (↑(a - b).toNat: Int) < 2 ^ 63) /\ ((↑(a - b).toNat: Int) = 0 ∨ -2 ^ 63 <= b + (-1 + 1) /\ b + (-1 + 1) < 2 ^ 63):=by omega
theorem oA138 {a b:Int} (h:0 <= a /\ a <= 4096) (h_1:0 <= b):-2 ^ 62 < a + b:=by lia
theorem oA139 {a b:Int} (h:0 <= a /\ a <= 4096) (h_1:b <= 4096):a + b < 2 ^ 62:=by lia
theorem oA140 {a b:Int} (h:a = 0) (h_1:b <= a):b <= (↑(Int.toNat 0): Int):=le_of_le_of_eq h_1 h
theorem oA141 {a b:Int} (h:a <= b):0 <= b - a:=Int.sub_nonneg_of_le h
theorem oA142 {a b:Int} (h:a <= b):a <= (b.toNat: Int):=by lia
theorem oA143 {a b:Nat} {c:Int} (h:a + (b + 1) = c.toNat):c.toNat - a = b + 1:=Nat.sub_eq_of_eq_add' (id (Eq.symm h))
theorem oA144 {a b:Nat} {c:Int} (h:a + b = c.toNat) (h_1:b = 0):a = c.toNat:=by lia
theorem oA145 {a b:Nat}:((↑(2 * a): Int) + (b: Int)) * 2 = (↑(2 * (2 * a + b)): Int):=by lia
theorem oA146 {a b:Nat}:((a: Int) - (b: Int)).toNat = a - b:=Int.toNat_sub a b
theorem oA147 {a b:Nat}:(8 * (a: Int) + (b: Int)).toNat = 8 * a + b:=Eq.symm (Nat.add_zero ((8 * a).add b))
theorem oA148 {a b:Nat}:(↑(2 * a): Int) + (b: Int) = (↑(2 * a + b): Int):=Int.ofNat_add_ofNat (2 * a) b
theorem oA149 {a b:Nat}:(↑(a + b): Int) + 1 = (↑(a + (b + 1)): Int):=Int.ofNat_add_one_out (a + b)
theorem oA150 {a b:Nat}:(↑(a + b): Int) = (↑(a + (b + 0)): Int):=Int.ofNat_inj.mpr rfl
theorem oA151 {a b:Nat} (h:(a: Int) - (b: Int) = 0):b = a:=by lia
theorem oA152 {a b:Nat}:(a: Int) < (↑(a + b + 1): Int):=Int.lt.intro rfl
theorem oA153 {a b:Nat} (h:(a: Int) = (b: Int)):a = b:=Int.ofNat_inj.mp h
theorem oA154 {a b:Nat} (h:(a: Int) <= 11):a - 1 - b <= 11:=by omega
theorem oA155 {a b:Nat}:-2 ^ 62 < (↑(2 * a): Int) + (b: Int):=Rat.intCast_lt_intCast.mp rfl
theorem oA156 {a b:Nat}:-2 ^ 62 < (a: Int) + 57 * ((b: Int) + 1):=Rat.intCast_lt_intCast.mp rfl
theorem oA157 {a b:Nat} (h:0 < a - b):1 <= a - b:=Nat.one_le_of_lt h
theorem oA158 {a b:Nat}:0 <= (↑(a + b): Int):=Int.natCast_nonneg (a + b)
theorem oA159 {a b:Nat}:0 <= (a: Int) - (↑(a - b): Int):=by omega
theorem oA160 {a b:Nat}:0 <= 8 * (a: Int) + (b: Int):=Int.zero_le_ofNat (8 * a + b)
theorem oA161 {a b:Nat}:1 <= Min.min a b + (b - a + 1):=Nat.le_add_left 1 ((min a b).add (b - a))
theorem oA162 {a b:Nat} (h:1 <= a):a - b - 2 < a:=by omega
theorem oA163 {a b:Nat} (h:11 - a = b + 1):b + 1 <= 11:=by omega
theorem oA164 {a b:Nat} (h:11 - a = b + 1):b < 11:=by omega
theorem oA165 {a b:Nat}:2 * (a + 0) + (b + 0) = 2 * a + b + 0:=Eq.symm (Nat.add_assoc (2 * a) b 0)
theorem oA166 {a b:Nat}:2 * (a + 0) + (b + 1) = 2 * a + b + 1:=Eq.symm (Nat.add_assoc (2 * a) b 1)
theorem oA167 {a b:Nat}:2 * (a / b / 2) + a / b % 2 = a / b:=Nat.div_add_mod (a / b) 2
theorem oA168 {a b:Nat} (h:2 <= a):2 <= Min.min b a + (a - b + 1):=by omega
theorem oA169 {a b:Nat}:a + (b + 1) = a + (1 + b):=by lia
theorem oA170 {a b:Nat} (h:a + (b + 1) <= 1000):a <= 999:=by lia
theorem oA171 {a b:Nat} (h:a + (b + 1) <= 11):a + b < 11:=Nat.lt_of_succ_le h
theorem oA172 {a b:Nat} (h:a + (b + 1) <= 11):a + b <= 11:=Nat.le_of_succ_le h
theorem oA173 {a b:Nat} (h:a + (b + 1) <= 12):a <= 100000:=by lia
theorem oA174 {a b:Nat} (h:a + (b + 1) <= 15):a <= 100000:=by lia
theorem oA175 {a b:Nat}:a + 1 + b + 1 = a + (b + 1) + 1:=Eq.symm (Nat.add_right_comm a (b + 1) 1)
theorem oA176 {a b:Nat}:a + 1 + b = a + (b + 1):=Nat.succ_add_eq_add_succ a b
theorem oA177 {a b:Nat} (h:a + 1 < b + 1):a < b:=Nat.succ_lt_succ_iff.mp h
theorem oA178 {a b:Nat} (h:a + 1 < b):a < b:=Nat.lt_of_succ_lt h
theorem oA179 {a b:Nat} (h:a + 1 = b + 1 + 1):a = b + 1:=Eq.symm (Nat.add_right_cancel (id (Eq.symm h)))
theorem oA180 {a b:Nat} (h:a + 1 <= b):a < b:=Nat.lt_of_succ_le h
theorem oA181 {a b:Nat} (h:a + 1 <= b):a <= b:=Nat.le_of_succ_le h
theorem oA182 {a b:Nat} (h:a + 4 * (b + 1) <= 980):a + 1 + 4 * b <= 980:=by lia
theorem oA183 {a b:Nat} (h:a + 4 * (b + 1) <= 980):a < 1000:=by lia
theorem oA184 {a b:Nat}:a + 6 + b + 1 <= a + 6 + (b + 1):=Nat.le_refl (a + 6 + b + 1)
theorem oA185 {a b:Nat} (h:a + 60 * b <= 9800):a + 1 < 9900:=by lia
theorem oA186 {a b:Nat} (h:a + 60 * b <= 9800):a < 9900:=by lia
theorem oA187 {a b:Nat}:a - 1 - b = 0 + (a - 1 - b):=Eq.symm (Nat.zero_add (a - 1 - b))
theorem oA188 {a b:Nat} (h:a - b = 0):a <= b:=Nat.le_of_sub_eq_zero h
theorem oA189 {a b:Nat} (h:a - b <= 11):a - b <= 100:=by lia
theorem oA190 {a b:Nat} (h:a < 2048) (h_1:b = 2048):a < b:=Nat.lt_of_lt_of_eq h (id (Eq.symm h_1))
theorem oA191 {a b:Nat} (h:a < 4):b + 22 + 1 <= b + 30 - a:=by lia
theorem oA192 {a b:Nat} (h:a < 8 * b):a / 8 < b:=Nat.div_lt_of_lt_mul h
theorem oA193 {a b:Nat} (h:a < b + 1):(a: Int) <= (b: Int):=by lia
theorem oA194 {a b:Nat} (h:a < b + 1) (h_1:a ≠ b):a < b:=by lia
theorem oA195 {a b:Nat} (h:a < b):(a: Int) + (↑(b - 1 - a): Int) = (b: Int) - 1:=by omega
theorem oA196 {a b:Nat} (h:a < b):(a: Int) - (b: Int) < 0:=by lia
theorem oA197 {a b:Nat} (h:a < b):(a: Int) < (b: Int):=Int.ofNat_lt.mpr h
theorem oA198 {a b:Nat} (h:a < b):(b: Int) - 1 - (↑(b - 1 - a): Int) = (a: Int):=by omega
theorem oA199 {a b:Nat} (h:a < b):(b: Int) - 1 - (a: Int) = (↑(b - 1 - a): Int):=by omega
theorem oA200 {a b:Nat} (h:a < b):1 * b + a < b * 2:=by lia
theorem oA201 {a b:Nat} (h:a < b):a + (b - 1 - a) = b - 1:=by lia
theorem oA202 {a b:Nat} (h:a < b):a + 1 - b = 0:=Nat.sub_eq_zero_of_le h
theorem oA203 {a b:Nat} (h:a < b):a + 1 < b + 1:=Nat.add_lt_add_right h 1
theorem oA204 {a b:Nat} (h:a < b):a + 1 <= b:=Nat.succ_le_of_lt h
theorem oA205 {a b:Nat} (h:a < b):a < b + 1:=Nat.lt_add_right 1 h
theorem oA206 {a b:Nat} (h:a < b):a <= b - 1:=Nat.le_sub_one_of_lt h
theorem oA207 {a b:Nat} (h:a < b):b - (b - 1 - a) = a + 1:=by omega
theorem oA208 {a b:Nat} (h:a < b):b - 1 - (b - 1 - a) = a:=by omega
theorem oA209 {a b:Nat} (h:a < b):b - 1 - a < b:=Nat.sub_one_sub_lt_of_lt h
theorem oA210 {a b:Nat} (h:a < b):b - a = b - (a + 1) + 1:=by lia
theorem oA211 {a b:Nat} (h:a < b):b = b - 1 - a + (a + 1):=by omega
theorem oA212 {a b:Nat} (h:a < b) (h_1:¬a + 1 = b):a + 1 < b:=Nat.lt_of_le_of_ne h h_1
theorem oA213 {a b:Nat} (h:a = 10) (h_1:b <= 100):a + b <= 1000:=by lia
theorem oA214 {a b:Nat} (h:a = b):a <= b:=Nat.le_of_eq h
theorem oA215 {a b:Nat} (h:a = b):b - a = 0:=Eq.symm (Nat.eq_sub_of_add_eq' h)
theorem oA216 {a b:Nat} (h:a = b):b = a:=Nat.add_right_cancel (congrFun (congrArg HAdd.hAdd (id (Eq.symm h))) a)
theorem oA217 {a b:Nat} (h:a = b) (h_1:b <= 60):(a: Int) < 2 ^ 62:=by lia
theorem oA218 {a b:Nat} (h:a = b) (h_1:b <= 60):a <= 100000:=by lia
theorem oA219 {a b:Nat} (h:a > 0) (h_1:1 <= b):a - b < a:=Nat.sub_lt h h_1
theorem oA220 {a b:Nat} (h:a <= 100):a + 22 - 2 * (b + 1) + 1 <= 1000:=by omega
theorem oA221 {a b:Nat} (h:a <= 100):a + 22 - 2 * (b + 1) <= 1000:=by omega
theorem oA222 {a b:Nat} (h:a <= 100):a + 30 - (b + 1) <= 1000:=by omega
theorem oA223 {a b:Nat} (h:a <= 1000) (h_1:b <= a):b <= 1000:=Nat.le_trans h_1 h
theorem oA224 {a b:Nat} (h:a <= 11):a - (b + 1 + 1) < 11:=by omega
theorem oA225 {a b:Nat} (h:a <= 11) (h_1:b < a):b + 1 <= 11:=Nat.le_trans h_1 h
theorem oA226 {a b:Nat} (h:a <= 11) (h_1:b < a):b < 11:=Nat.lt_of_lt_of_le h_1 h
theorem oA227 {a b:Nat} (h:a <= 11) (h_1:b < a):b <= 10:=by lia
theorem oA228 {a b:Nat} (h:a <= 11) (h_1:b < a):b <= 11:=by lia
theorem oA229 {a b:Nat} (h:a <= 11) (h_1:b <= 11):a + (b - 1 - a) <= 11:=by omega
theorem oA230 {a b:Nat} (h:a <= 11) (h_1:b <= a):b - 1 - 1 <= 11:=by omega
theorem oA231 {a b:Nat} (h:a <= 11) (h_1:b <= a):b - 1 <= 11:=by omega
theorem oA232 {a b:Nat} (h:a <= 12) (h_1:b < 4):a + b <= 15:=by lia
theorem oA233 {a b:Nat} (h:a <= 15):a - (b: Int).toNat + Min.min (b: Int).toNat a <= 100000:=by omega
theorem oA234 {a b:Nat} (h:a <= 15):a - b + Min.min b a <= 17:=by omega
theorem oA235 {a b:Nat} (h:a <= 15) (h_1:b < a):0 <= (b: Int) /\ (b: Int) < 256:=by lia
theorem oA236 {a b:Nat} (h:a <= 15) (h_1:b = a):b <= 100000:=by lia
theorem oA237 {a b:Nat} (h:a <= 200) (h_1:b <= 4):a + 1 + b <= 1000:=by lia
theorem oA238 {a b:Nat} (h:a <= 4):b + 1 + a <= b + 5:=by lia
theorem oA239 {a b:Nat} (h:a <= 52) (h_1:b < 8):b + a <= 100000:=by lia
theorem oA240 {a b:Nat} (h:a <= 52) (h_1:b = a / 8 + 1):b <= 100000:=by lia
theorem oA241 {a b:Nat} (h:a <= 60) (h_1:b < a):(b: Int) < 2 ^ 60:=by lia
theorem oA242 {a b:Nat} (h:a <= 62) (h_1:b <= a):b <= 62:=Nat.le_trans h_1 h
theorem oA243 {a b:Nat}:a <= a + b:=Nat.le_add_right a b
theorem oA244 {a b:Nat} (h:a <= b + 1) (h_1:0 = b + 1 - a):a = b + 1:=by lia
theorem oA245 {a b:Nat} (h:a <= b + 1):a + 1 <= b + 1 + 1:=Nat.add_le_add_right h 1
theorem oA246 {a b:Nat} (h:a <= b + 1) (h_1:b < a):a = b + 1:=Eq.symm (Nat.le_antisymm h_1 h)
theorem oA247 {a b:Nat} (h:a <= b):(a: Int) < (↑(b + 1): Int):=by lia
theorem oA248 {a b:Nat} (h:a <= b):(b: Int) - (a: Int) = (↑(b - a): Int):=Eq.symm (Int.ofNat_sub h)
theorem oA249 {a b:Nat} (h:a <= b):0 + a <= b:=by lia
theorem oA250 {a b:Nat} (h:a <= b) (h_1:0 = b - a):a = b:=by lia
theorem oA251 {a b:Nat} (h:a <= b):0 <= (b: Int) - (a: Int):=by lia
theorem oA252 {a b:Nat} (h:a <= b):a + 1 <= b + 1:=Nat.add_le_add_right h 1
theorem oA253 {a b:Nat} (h:a <= b):a - 1 < b + 1:=by omega
theorem oA254 {a b:Nat} (h:a <= b):a < b + 1:=Nat.lt_succ_of_le h
theorem oA255 {a b:Nat} (h:a <= b) (h_1:a < b):b - a = b - (a + 1) + 1:=by lia
theorem oA256 {a b:Nat} (h:a <= b):a <= b + 1:=Nat.le_add_right_of_le h
theorem oA257 {a b:Nat} (h:a <= b) (h_1:a ≥ b):b - a = 0:=Nat.sub_eq_zero_of_le h_1
theorem oA258 {a b:Nat} (h:a <= b):b + 1 - a = b - a + 1:=Nat.sub_add_comm h
theorem oA259 {a b:Nat} (h:a <= b):b + 16 - a = b - a + 16:=Nat.sub_add_comm h
theorem oA260 {a b:Nat} (h:a <= b):b - a + a = b:=Nat.sub_add_cancel h
theorem oA261 {a b:Nat} (h:a <= b):b = a + (b - a):=Eq.symm (Nat.add_sub_of_le h)
theorem oA262 {a b:Nat} (h:a <= b):b = b - a + a:=(Nat.sub_eq_iff_eq_add h).mp rfl
theorem oA263 {a b:Nat} (h:a <= b) (h_1:b <= 2 ^ 11):0 <= (↑(2 * a): Int) /\ (↑(2 * a): Int) <= 4096:=by lia
theorem oA264 {a b:Nat} (h:a ≥ b / 8 + 1):b / 8 + 1 - a = 0:=Nat.sub_eq_zero_of_le h
theorem oA265 {a b:Nat} (h:a ≥ b) (h_1:a - b = 0):a = b:=by lia
theorem oA266 {a b:Nat} (h:a ≥ b):b - a = 0:=Nat.sub_eq_zero_of_le h
theorem oA267 {a b:Nat} (h:¬a < b) (h_1:0 ≥ a - b):a = b:=by lia
theorem oA268 {a b:Nat} (h:¬a < b) (h_1:a < b + 1):a = b:=Nat.eq_of_lt_succ_of_not_lt h_1 h
theorem oA269 {a b:Nat} (h:¬a < b):b <= a:=Nat.le_of_not_lt h
theorem oA270 {a b:Nat} (h:¬a = b):¬(b: Int) = (a: Int):=Nat.ToInt.of_diseq rfl rfl fun a_1=>h (id (Eq.symm a_1))
theorem oA271 {a b:Nat} (h:¬a <= b):b < a:=Nat.lt_of_not_le h
theorem oA272 {a b c:Nat} {d:Int} {e f:Nat} (h:a <= 52) (h_1:b < 8) (h_2:b + a = 8 * c) (h_3:d = (c: Int)) (h_4:((c: Int) - 0).toNat = c) (h_5:e < c) (h_6:f <= 8) (h_7:f < 8) (h_8:(8 * (e: Int) + (f: Int)).toNat = 8 * e + f):8 * (e: Int) + (f: Int) < 2 ^ 60:=by lia
theorem oA273 {a b c:Nat} {d:Int} {e f:Nat} (h:a <= 52) (h_1:b < 8) (h_2:b + a = 8 * c) (h_3:d = (c: Int)) (h_4:((c: Int) - 0).toNat = c) (h_5:e = c) (h_6:f = c + 2):e <= 100000:=by lia
theorem oA274 {a b c:Nat} {d:Int} {e f:Nat} (h:a <= 52) (h_1:b < 8) (h_2:b + a = 8 * c) (h_3:d = (c: Int)) (h_4:((c: Int) - 0).toNat = c) (h_5:e = c) (h_6:f = c + 2):f <= 100000:=by lia
theorem oA275 {a b c:Nat} {d:Int} {e f g i:Nat} (h:a + b = 8 * c) (h_1:d = (c: Int)) (h_2:((c: Int) - 0).toNat = c) (h_3:e = c) (h_4:f = c + 2) (h_5:g <= b) (h_6:1 <= i) (h_7:i <= 11) (h_8:i <= g):g - i <= b:=by lia
theorem oA276 {a b c:Nat} {d:Int} (h:a <= 52) (h_1:b < 8) (h_2:b + a = 8 * c) (h_3:d = (c: Int)) (h_4:((c: Int) - 0).toNat = c):8 * c <= 100000:=by lia
theorem oA277 {a b c:Nat} {d:Int} (h:a <= 52) (h_1:b < 8) (h_2:b + a = 8 * c) (h_3:d = (c: Int)) (h_4:((c: Int) - 0).toNat = c):c + 2 <= 100000:=by lia
theorem oA278 {a b c:Nat} {d:Int} (h:a <= 52) (h_1:b < 8) (h_2:b + a = 8 * c) (h_3:d = (c: Int)) (h_4:((c: Int) - 0).toNat = c):c <= 100000:=by lia
theorem oA279 {a b c:Nat} {d:Int} (h:a <= 52) (h_1:b < 8) (h_2:b + a = 8 * c) (h_3:d = (c: Int)) (h_4:((c: Int) - 0).toNat = c):c <= 99998:=by lia
theorem oA280 {a b c:Nat}:2 * (a + b) + (c + 0) = 2 * a + c + b * 2:=by lia
theorem oA281 {a b c:Nat} (h:2 * a <= b / c):a <= b / c / 2:=by lia
theorem oA282 {a b c:Nat} (h:8 * a <= b) (h_1:b < 8 * a + 8 * c):b / 8 - a < c:=by omega
theorem oA283 {a b c:Nat}:a + (256 * b + 256 * c) = a + 256 * b + 256 * c:=Eq.symm (Nat.add_assoc a (256 * b) (256 * c))
theorem oA284 {a b c:Nat} (h:a + (b + 1) = c):a < c:=by lia
theorem oA285 {a b c:Nat} (h:a + (b + 1) <= c):a + b <= c:=Nat.le_of_succ_le h
theorem oA286 {a b c:Nat}:a + (b + c) = a + b + c:=Eq.symm (Nat.add_assoc a b c)
theorem oA287 {a b c:Nat}:a + (b + c) = a + c + (b + 0):=by lia
theorem oA288 {a b c:Nat} (h:a + 1 <= 3) (h_1:b <= c + 30 - (a + 1) + 1):b <= c + 30 - a:=by lia
theorem oA289 {a b c:Nat} (h:a + 60 * (b + 1) <= 9800) (h_1:c <= 10):a + c + 60 * b <= 9800:=by lia
theorem oA290 {a b c:Nat}:a + b + (c + 0) = c + b + (a + 0):=by lia
theorem oA291 {a b c:Nat}:a + b + c = a + (b + c):=Nat.add_assoc a b c
theorem oA292 {a b c:Nat} (h:a + b = a + c):b = c:=Nat.add_left_cancel h
theorem oA293 {a b c:Nat} (h:a + b = c):b = c - a:=Nat.eq_sub_of_add_eq' h
theorem oA294 {a b c:Nat} (h:a + b <= c):(c: Int) - (↑(c - a): Int) = (a: Int):=by lia
theorem oA295 {a b c:Nat} (h:a + b <= c):a <= c:=Nat.le_of_add_right_le h
theorem oA296 {a b c:Nat} (h:a + b <= c) (h_1:¬a + b = c):a + 1 + b <= c:=by lia
theorem oA297 {a b c:Nat} (h:a / b < c):c = a / b + 1 + (c - (a / b + 1)):=Eq.symm (Nat.add_sub_of_le h)
theorem oA298 {a b c:Nat} (h:a < 256) (h_1:b < c):a + 256 * b < c * 256:=by lia
theorem oA299 {a b c:Nat} (h:a < b + 1 * c) (h_1:b <= a):b <= a /\ a <= b + c - 1:=by lia
theorem oA300 {a b c:Nat} (h:a < b - c):c + a < b:=Nat.add_lt_of_lt_sub' h
theorem oA301 {a b c:Nat} (h:a < b) (h_1:c < 8):8 * a + c < 8 * b:=by lia
theorem oA302 {a b c:Nat} (h:a < b ∨ b = a /\ c < 0) (h_1:¬b = a + 1):a + 1 < b:=by lia
theorem oA303 {a b c:Nat} (h:a = b + (c + 1)):a = b + 1 + c:=by lia
theorem oA304 {a b c:Nat} (h:a = b + 1 + c):a = b + (c + 1):=by lia
theorem oA305 {a b c:Nat} (h:a = b + c):(b: Int) + (c: Int) = (a: Int):=Eq.symm ((fun {a b}=>Int.neg_inj.mp) (congrArg Neg.neg (congrArg Nat.cast h)))
theorem oA306 {a b c:Nat} (h:a = b) (h_1:(a: Int) ≠ (c: Int)) (h_2:b = c):False:=by lia
theorem oA307 {a b c:Nat} (h:a = b) (h_1:a <= c):((c: Int) - (a: Int)).toNat = c - a:=Int.toNat_sub c a
theorem oA308 {a b c:Nat} (h:a = b) (h_1:c < a):b - c - 1 + 1 = b - c:=by lia
theorem oA309 {a b c:Nat} (h:a = b) (h_1:c < a):¬b - c = 0:=by lia
theorem oA310 {a b c:Nat} (h:a = b) (h_1:c < b):c < a:=Nat.lt_of_lt_of_eq h_1 (id (Eq.symm h))
theorem oA311 {a b c:Nat} (h:a = b) (h_1:c ≥ b):a <= c:=le_of_eq_of_le h h_1
theorem oA312 {a b c:Nat} (h:a = b) (h_1:¬(a: Int) ≠ (c: Int)):b = c:=by lia
theorem oA313 {a b c:Nat} (h:a = b) (h_1:¬c < b) (h_2:c < a + 1):c = b:=by lia
theorem oA314 {a b c:Nat} (h:a <= 200) (h_1:b + (c + 1) <= 4):a + 1 + b <= 1000:=by lia
theorem oA315 {a b c:Nat} (h:a <= 200) (h_1:b + (c + 1) <= 8):a + 6 + b <= 1000:=by lia
theorem oA316 {a b c:Nat} (h:a <= 4) (h_1:b <= 11 * a) (h_2:c <= 8):b + c <= 100000:=by lia
theorem oA317 {a b c:Nat} (h:a <= 4) (h_1:b <= 8) (h_2:c <= 11 * a):c + b <= 52:=by lia
theorem oA318 {a b c:Nat} (h:a <= 60 * b + c):a + 1 <= 60 * b + (c + 1):=Nat.add_le_add_right h 1
theorem oA319 {a b c:Nat} (h:a <= 60) (h_1:b + c < a):(↑(b + c): Int) < 2 ^ 60:=by lia
theorem oA320 {a b c:Nat} (h:a <= 60) (h_1:b = c) (h_2:c < a):b <= 100000:=by lia
theorem oA321 {a b c:Nat} (h:a <= 8 * b) (h_1:c <= a):c <= 8 * b:=Nat.le_trans h_1 h
theorem oA322 {a b c:Nat} (h:a <= b / c):b / c = a + (b / c - a):=Eq.symm (Nat.add_sub_of_le h)
theorem oA323 {a b c:Nat} (h:a <= b) (h_1:1 <= c) (h_2:c <= 11) (h_3:(a: Int) - (c: Int) = (↑(a - c): Int)):a - c <= b:=by lia
theorem oA324 {a b c:Nat} (h:a <= b):a * 2 <= 2 * b + c:=by lia
theorem oA325 {a b c:Nat} (h:a <= b) (h_1:c < a):b - c = b - (c + 1) + 1:=by lia
theorem oA326 {a b c:Nat} (h:a <= b) (h_1:c < a):c + 1 < b + 1:=by lia
theorem oA327 {a b c:Nat} (h:a <= b) (h_1:c < a):c < b:=Nat.lt_of_lt_of_le h_1 h
theorem oA328 {a b c:Nat} (h:a <= b) (h_1:c <= a):c <= b:=Nat.le_trans h_1 h
theorem oA329 {a b c:Nat} (h:¬a < b) (h_1:c = a):¬c < b:=Eq.mpr_not (congrFun (congrArg LT.lt h_1) b) h
theorem oA330 {a b c d:Nat} {e:Int} {f g i:Nat} (h:a = b / 8 + 1) (h_1:c + b = 8 * d) (h_2:e = (d: Int)) (h_3:((d: Int) - 0).toNat = d) (h_4:f = d) (h_5:g = d + 2) (h_6:i <= b):i <= 8 * a:=by lia
theorem oA331 {a b c d:Nat} (h:(a: Int) + (b: Int) + 16 = 8 * (c: Int)):8 * (c: Int) - (↑(a + d): Int) - 16 = (b: Int) - (d: Int):=by lia
theorem oA332 {a b c d:Nat} (h:1 <= a) (h_1:b = c) (h_2:d + a <= c):d < b:=by lia
theorem oA333 {a b c d:Nat} (h:a + (b + 1) <= 4) (h_1:c <= 11 * a) (h_2:d <= 11):c + d <= 100000:=by lia
theorem oA334 {a b c d:Nat} (h:a + (b + c) = d):a + b + c = d:=by lia
theorem oA335 {a b c d:Nat} (h:a + 1 < b ∨ b = a + 1 /\ c < d):a < b:=by lia
theorem oA336 {a b c d:Nat} (h:a + b = 8 * c) (h_1:a + d + 1 <= 8 * c):d + 1 <= b:=by lia
theorem oA337 {a b c d:Nat} (h:a + b = 8 * c) (h_1:a + d + 1 <= 8 * c):d < b:=by lia
theorem oA338 {a b c d:Nat} (h:a + b = 8 * c) (h_1:d = c + 2):(a: Int) + (b: Int) + 16 = 8 * (d: Int):=by lia
theorem oA339 {a b c d:Nat} (h:a + b = c + d) (h_1:b = 2 * d):a + d = c:=by lia
theorem oA340 {a b c d:Nat} (h:a + b = c) (h_1:b + d <= c):d <= a:=by lia
theorem oA341 {a b c d:Nat} (h:a + b = c) (h_1:d <= a):a - d + (b + d) = c:=by lia
theorem oA342 {a b c d:Nat} (h:a / b = 2 * c + d):2 * c <= a / b:=Nat.le.intro (id (Eq.symm h))
theorem oA343 {a b c d:Nat} (h:a / b = c + d):c <= a / b:=Nat.le.intro (id (Eq.symm h))
theorem oA344 {a b c d:Nat} (h:a < 256) (h_1:b <= c /\ c < d):256 * b <= a + 256 * c /\ a + 256 * c < 256 * d:=by lia
theorem oA345 {a b c d:Nat} (h:a = 10) (h_1:b = 5) (h_2:c <= 100) (h_3:d = a + c):d + b <= 1000:=by lia
theorem oA346 {a b c d:Nat} (h:a = b) (h_1:c = a + (1 + d)):d = c - 1 - b:=by omega
theorem oA347 {a b c d:Nat} (h:a <= 60) (h_1:b + c < a) (h_2:d <= b):d <= 100000:=by lia
theorem oA348 {a b c d:Nat} (h:a <= 60) (h_1:b <= 60 * c + d) (h_2:d < a) (h_3:c <= 11):b <= 1000:=by lia
theorem oA349 {a b c d:Nat} (h:a <= 60) (h_1:b <= 60 * c + d) (h_2:d = a):b <= 60 * (c + 1):=by lia
theorem oA350 {a b c d:Nat} (h:a <= b * 2) (h_1:a = 2 * c + d):b * 2 - a + d = 2 * (b - c):=by lia
theorem oA351 {a b c d:Nat} (h:a <= b / c) (h_1:b / c = b / d / 2):2 * a <= b / d:=by lia
theorem oA352 {a b c d:Nat} (h:a <= b) (h_1:a = 2 * c + d) (h_2:b <= 2 ^ 11):(d: Int) <= 4096:=by lia
theorem oA353 {a b c d:Nat} (h:a <= b) (h_1:b <= 2 ^ 11) (h_2:a = 2 * c + d):(↑(2 * c): Int) + (d: Int) < 2 ^ 62:=by lia
theorem oA354 {a b c d:Nat} (h:a <= b) (h_1:c <= d):c + a <= b + 1 * d:=by lia
theorem oA355 {a b c d e:Nat} (h:a + b = c + d):e + a + b = e + c + d:=by lia
theorem oA356 {a b c d e:Nat} (h:a + b = c) (h_1:c < b + d + 1 * e):a < d + 1 * e:=by lia
theorem oA357 {a b c d e:Nat} (h:a / b = 2 * c + d):(e: Int) + (↑(a / b): Int) - (↑(2 * c): Int) = (↑(e + d): Int):=by lia
theorem oA358 {a b c d e:Nat} (h:a / b = c + d) (h_1:a / b = c + e):d = e:=by lia
theorem oA359 {a b c d e:Nat} (h:a < b) (h_1:c = 2 * d + b) (h_2:c <= e):e - 1 - (e - c + a) = 2 * d + (b - 1 - a):=by lia
theorem oA360 {a b c d e:Nat} (h:a < b) (h_1:c <= a) (h_2:b <= c):d = e:=by lia
theorem oA361 {a b c d e:Nat} (h:a <= b / c / 2) (h_1:d + e = 2 * a):d <= b / c:=by lia
theorem oA362 {a b c d e:Nat} (h:a <= b / c) (h_1:a + d = 2 * e) (h_2:¬e <= b / c / 2):b / c - a < d:=by lia
theorem oA363 {a b c d e:Nat} (h:a <= b / c) (h_1:a = 2 * d + e):d <= b / c / 2:=by lia
theorem oA364 {a b c d e:Nat} (h:a <= b) (h_1:b < c) (h_2:c <= a):d = e:=by lia
theorem oA365 {a b c d e f:Nat} (h:a < b) (h_1:c + a = d) (h_2:e = 2048) (h_3:e = c + b + f):f <= 2047 - d /\ 2047 - d <= f + b - 1:=by lia
theorem oA366 {a b c d e f:Nat} (h:a = b + (1 + c)) (h_1:d <= e) (h_2:d = 2 * f + a):(e: Int) - 1 - (↑(2 * f + c): Int) = (↑(e - d + b): Int):=by omega
theorem oA367 {a b c d e f:Nat} (h:a = b) (h_1:c < d) (h_2:e = f + d) (h_3:e <= b):(↑(f + c): Int) < (a: Int):=by lia
theorem oA368 {a b c d e f:Nat} (h:a = b) (h_1:c < d) (h_2:e = f + d) (h_3:e <= b):f + c < a:=by lia
theorem oA369 {a b c d e f g:Nat} (h:a / b = c + d) (h_1:e <= a / f) (h_2:c + g = 2 * e) (h_3:a / f = a / b / 2) (h_4:d < g):False:=by lia
theorem oA370 {a b c d e f g i:Nat} (h:a < b) (h_1:c + a = d + e) (h_2:f = c + b) (h_3:f <= d):g = i /\ a = e:=by lia
theorem oA371 {a b c d e f g i:Nat} (h:a < b) (h_1:c + d = e + a) (h_2:f = e + b) (h_3:f <= c):g = i /\ d = a:=by lia
end Mine
set_option genSizeOf false
set_option genSizeOfSpec false
namespace Mine
open PySem PySem.W PyProof.Rows
inductive V where
  | unb | none | bool (b : Bool) | int (i : Int) | str (s : Str) | bytes (b : List Nat) | ref (a : Addr) | type (n : String) | bi (n : String) | odd
deriving DecidableEq
noncomputable def er:Value -> V
  | .none => .none
  | .bool b => .bool b
  | .int i _ => .int i
  | .str s _ => .str s
  | .bytes b _ => .bytes (b.toList.map UInt8.toNat)
  | .ref a => .ref a
  | .type n => .type n
  | .builtin n => .bi n
  | _ => .odd
theorem er_none {v:Value} (h:er v = .none):v = .none:=by cases v <;> simp_all [er]
theorem er_bool {v:Value} {b:Bool} (h:er v = .bool b):v = .bool b:=by cases v <;> simp_all [er]
theorem er_int {v:Value} {i:Int} (h:er v = .int i):∃ t,v = .int i t:=by cases v <;> simp_all [er]
theorem er_ref {v:Value} {a:Addr} (h:er v = .ref a):v = .ref a:=by cases v <;> simp_all [er]
theorem er_str {v:Value} {x:Str} (h:er v = .str x):∃ t,v = .str x t:=by cases v <;> simp_all [er]
theorem er_bi {v:Value} {x:String} (h:er v = .bi x):v = .builtin x:=by cases v <;> simp_all [er]
theorem er_type {v:Value} {x:String} (h:er v = .type x):v = .type x:=by cases v <;> simp_all [er]
theorem er_bytes {v:Value} {x:List Nat} (h:er v = .bytes x):∃ b t,v = .bytes b t /\ b.toList.map UInt8.toNat = x:=by cases v <;> simp_all [er]
theorem er_unb {v:Value}:er v ≠ .unb:=by cases v <;> simp [er]
inductive MO where
  | list (xs : List V) | tup (xs : List V) | dict (m : Int -> Option V) (n : Nat) | inst (C dx : Addr) | attrs (es : List (String × V)) | barr (l : List Nat) | exc (C : Addr) (bare : Bool)
set_option genInjectivity false
noncomputable abbrev MH:=Addr -> Option MO
noncomputable def upd (H:MH) (a:Addr) (m:MO):MH:=fun b=>if b = a then some m else H b
theorem upd_self (H:MH) (a:Addr) (m:MO):upd H a m a = some m:=if_pos rfl
theorem upd_ne (H:MH) {a b:Addr} (m:MO) (h:b ≠ a):upd H a m b = H b:=if_neg h
inductive EntsAre:List DictEntry -> List (String × V) -> Prop
  | nil : EntsAre [] []
  | cons {e x t v es r} : e.key = .str (Str.ofString x) t -> er e.val = v -> EntsAre es r -> EntsAre (e :: es) ((x,v) :: r)
noncomputable def ORel:MO -> Obj -> Prop
  | .list xs,o => ∃ items n,o = listOf items n /\ items.toList.map er = xs
  | .tup xs,o => ∃ items n,o = ({ cls := .type "tuple",data:=.seq items n }:Obj) /\ items.toList.map er = xs
  | .dict m k,o => o.cls = .type "dict" /\ ∃ es n,o.data = .dict es n /\ IntKeys es /\ es.size <= k /\ ∀ i,(findBy Value.isInt es i).map er = m i
  | .inst C dx,o => o = instObj C dx
  | .attrs es,o => ∃ ens n,o = dictOf ens n /\ EntsAre ens es
  | .barr l,o => o.cls = .type "bytearray" /\ ∃ b,o.data = .bytearray b 0 /\ b.toList.map UInt8.toNat = l /\ o.dict = none
  | .exc C bare,o => ∃ t dd,(bare = true -> dd = none) /\ o = { cls := .ref C,dict := dd,data := .fields #[.ref t,.none,.none,.none,.bool false,.none] }
structure Gl where
  prog:Program
  w:World
  h₀:Heap
  P:Addr
  os:OsState
  K:Frag
  mg:Str -> Option Value
  mb:Str -> Option Value
  lams:List (Pos × Str)
structure GlOk (G:Gl):Prop where
  g:G.h₀.Ns mainGlobals G.mg
  b:G.h₀.Ns builtinsNs G.mb
  nolimit:G.h₀.NoLimit
  kin:G.K.In G.h₀
  boot:∀ x:Str,x ≠ "__name__" -> G.mb x = bootBuiltins x
  bmain:∃ bm ob,G.mg "__builtins__" = some (.ref bm) /\ bm ≠ builtinsNs /\ G.h₀.get? bm = some ob /\ ob.cls = .type "module" /\ ob.dict = some builtinsNs /\ ob.data = .plain
  noP:G.h₀.get? G.P = none
structure Cx where
  env:Env
  stack:List Env
  names:List Str
  own:List Addr
  cst:Str -> Bool:=fun zz=>true
noncomputable def Cx.frames (c:Cx):List Addr:=c.stack.filterMap (·.frame)
structure Org where
  H:MH
  h:Heap
structure FrameOk (c:Cx) (ls:List V) (h:Heap):Prop where
  loc:∃ m,h.Ns c.env.locals m /\ ∀ (i:Nat) x v,c.names[i]? = some x -> c.env.kindOf x = some .local -> ls[i]? = some v -> v ≠ .unb -> ∃ u,m x = some u /\ er u = v
  cell:∀ (i:Nat) x,c.names[i]? = some x -> c.env.kindOf x ≠ some .local -> ∃ ca u,c.env.cells.lookup x = some ca /\ h.IsCell ca u /\ ∀ v,ls[i]? = some v -> v ≠ .unb -> ∃ y,u = some y /\ er y = v
noncomputable def TabInv (G:Gl) (h:Heap):Prop :=
  ∃ ps,h.get? G.P = some (tabObj ps) /\ TriplesOk ps.toList /\ ∀ p ∈ G.lams,∀ cv,codeAmong p.1 ps.toList = some cv -> h.CodeRec cv p.2
structure Trans (G:Gl) (c:Cx) (o:Org) (H:MH) (h:Heap):Prop where
  keep:∀ b x,o.h.get? b = some x -> o.H b = none -> b ≠ G.P -> b ∉ c.own -> b ∉ c.frames -> h.get? b = some x
  frm:∀ b x,o.h.get? b = some x -> b ∈ c.frames -> b ∉ c.own -> ∃ sl,h.get? b = some { x with slots:=sl }
  claim:∀ b x,o.h.get? b = some x -> o.H b = none -> H b = none
  ex:∀ b x,o.h.get? b = some x -> ∃ y,h.get? b = some y
structure CxOk (G:Gl) (c:Cx):Prop where
  kind:c.env.scope.kind = .function
  glob:c.env.globals = mainGlobals
  blt:c.env.builtins = builtinsNs
  nodup:c.names.Nodup
  loc:c.env.locals ∈ c.own
  cells:∀ x ca,c.cst x = true -> c.env.cells.lookup x = some ca -> ca ∈ c.own /\ ca ≠ c.env.locals /\ ca ∉ c.frames
  apart:∀ x y ca,c.env.cells.lookup x = some ca -> c.env.cells.lookup y = some ca -> x = y
  frame:∃ L,c.env.frame = some L /\ ∃ e r,c.stack = e :: r /\ e.frame = some L
  noP:G.P ∉ c.own
structure St (G:Gl) (c:Cx) (o:Org) (H:MH) (ls:List V) (s:Shared):Prop where
  gens:s.gens = #[]
  os:s.os = G.os
  base:G.h₀.StaysIn s.heap
  own:∀ a m,H a = some m -> G.h₀.get? a = none /\ a ≠ G.P /\ a ∉ c.own /\ a ∉ c.frames /\ ∃ ob,s.heap.get? a = some ob /\ ORel m ob
  ownEx:∀ a ∈ c.own,G.h₀.get? a = none /\ ∃ ob,s.heap.get? a = some ob
  free:∀ x ca,c.env.cells.lookup x = some ca -> H ca = none /\ ∃ ob,s.heap.get? ca = some ob
  tab:TabInv G s.heap
  frame:FrameOk c ls s.heap
  fr:s.heap.FunFrames G.h₀ c.stack
  tr:Trans G c o H s.heap
theorem FrameOk.keeps {c:Cx} {ls:List V} {h h':Heap} (x:FrameOk c ls h) (hk:∀ b o,h.get? b = some o -> h'.get? b = some o):FrameOk c ls h':=by
  refine xA1_1 x.loc ?_;intro m hn hl
  refine ⟨(xI1_1 m (hn.keeps hk) hl),fun i x' hi hx=>?_⟩
  refine xA2_2 (x.cell i x' hi hx) ?_;intro ca u h1 h2 h3
  exact (xI2_2 ca u h1 (h2.keeps hk) h3)
theorem TabInv.keeps {G:Gl} {h h':Heap} (x:TabInv G h) (hk:∀ b o,h.get? b = some o -> h'.get? b = some o):TabInv G h':=by
  refine xA1_2 x ?_;(try clear x);intro ps h1 h2 h3
  exact (xI1_2 ps (hk _ _ h1) h2 (fun p hp cv hc=>(h3 p hp cv hc).keeps hk))
theorem funFrames_mem {h base:Heap} {l:List Env} (x:h.FunFrames base l) {b:Addr} (hb:b ∈ l.filterMap (·.frame)):base.get? b = none /\ ∃ o,h.get? b = some o /\ ∀ vs,o.data ≠ .fields vs:=x.mem hb
section
variable {G:Gl} {c:Cx} {o:Org} {H:MH} {ls:List V} {s s':Shared}
theorem St.keeps (x:St G c o H ls s) (hk:∀ b o,s.heap.get? b = some o -> s'.heap.get? b = some o) (hg:s'.gens = s.gens) (hos:s'.os = s.os):St G c o H ls s' where
  gens:=hg.trans x.gens
  os:=hos.trans x.os
  base:=fun b o e=>hk b o (x.base b o e)
  own:=fun a m e=>let ⟨h1,h2,h3,h4,ob,h5,h6⟩:=x.own a m e;⟨h1,h2,h3,h4,ob,hk _ _ h5,h6⟩
  ownEx:=fun a ha=>let ⟨h1,⟨ ob,h2⟩⟩:=x.ownEx a ha;⟨h1,⟨ ob,hk _ _ h2⟩⟩
  free:=fun y ca h=>let ⟨h1,⟨ ob,h2⟩⟩:=x.free y ca h;⟨h1,⟨ ob,hk _ _ h2⟩⟩
  tab:=x.tab.keeps hk
  frame:=x.frame.keeps hk
  fr:=x.fr.of_keeps fun b o e zz=>(xI1_1 o (hk _ _ e) rfl)
  tr:=⟨fun b y h1 h2 h3 h4 h5=>hk _ _ (x.tr.keep b y h1 h2 h3 h4 h5),fun b y h1 h2 h3=>let ⟨sl,e⟩:=x.tr.frm b y h1 h2 h3;⟨sl,hk _ _ e⟩,x.tr.claim,fun b y e=>let ⟨z,hz⟩:=x.tr.ex b y e;⟨z,hk _ _ hz⟩⟩
theorem St.live (x:St G c o H ls s) {a:Addr} {m:MO} (e:H a = some m):∃ ob,s.heap.get? a = some ob /\ ORel m ob:=(x.own a m e).2.2.2.2
theorem none_of_keeps {h h':Heap} {a:Addr} (hk:∀ b o,h.get? b = some o -> h'.get? b = some o) (e:h'.get? a = none):h.get? a = none:=by
  cases q:h.get? a with
  | none => rfl
  | some o => rw [hk _ _ q] at e;cases e
theorem St.fresh (x:St G c o H ls s) {a:Addr} (e:s.heap.get? a = none):H a = none /\ G.h₀.get? a = none /\ a ≠ G.P /\ a ∉ c.own /\ a ∉ c.frames /\ ∀ b y,o.h.get? b = some y -> b ≠ a:=by
  refine ⟨?_,none_of_keeps x.base e,fun q=>?_,fun q=>?_,fun q=>?_,fun b y h1 q=>?_⟩
  · cases q:H a with
    | none => rfl
    | some m => obtain ⟨ob,h1,_⟩ := x.live q;rw [e] at h1;cases h1
  · obtain ⟨ps,h1,_⟩:=x.tab;rw [<- q,e] at h1;cases h1
  · obtain ⟨_,ob,h1⟩:=x.ownEx a q;rw [e] at h1;cases h1
  · obtain ⟨_,ob,h1,_⟩:=funFrames_mem x.fr q;rw [e] at h1;cases h1
  · subst q;obtain ⟨z,h2⟩:=x.tr.ex b y h1;rw [e] at h2;cases h2
theorem St.alloc (x:St G c o H ls s) {a:Addr} {m:MO} {ob:Obj} (hk:∀ b o,s.heap.get? b = some o -> s'.heap.get? b = some o) (ha:s.heap.get? a = none) (hob:s'.heap.get? a = some ob) (hm:ORel m ob)
    (hg:s'.gens = s.gens) (hos:s'.os = s.os):St G c o (upd H a m) ls s':=by
  have y:=x.keeps hk hg hos
  refine xA0_5 (x.fresh ha) ?_;intro f1 f2 f3 f4 f5 f6
  refine { y with own:=fun b mb e=>?_,free:=fun z ca e=>?_,tr:={ y.tr with claim:=fun b z h1 h2=>?_ } }
  · by_cases q:b = a
    · subst q;rw [upd_self] at e;cases e
      exact (xI0_4 f2 f3 f4 f5 (xI1_1 ob hob hm))
    · rw [upd_ne _ _ q] at e;exact y.own b mb e
  · refine xA0_1 (x.free z ca e) ?_;intro h1 hT1;refine xA1_0 hT1 ?_;(try clear hT1);intro oc h2
    rw [upd_ne _ _ (fun q=>by rw [q,ha] at h2;cases h2)]
    exact ⟨h1,⟨ oc,hk _ _ h2⟩⟩
  · rw [upd_ne _ _ (f6 b z h1)];exact x.tr.claim b z h1 h2
theorem funFrames_of {base h h':Heap}:∀ {l:List Env},h.FunFrames base l -> (∀ b ∈ l.filterMap (·.frame),∀ o,h.get? b = some o -> (∀ vs,o.data ≠ .fields vs) -> ∃ o',h'.get? b = some o' /\ ∀ vs,o'.data ≠ .fields vs) -> h'.FunFrames base l
  | [],_,_ => trivial
  | env :: r,⟨hk,⟨L,o,hf,hn,ho,hd⟩,hr⟩,k => by
    refine xA1_1 (k L (by simp [hf]) o ho hd) ?_;intro o' h1 h2
    exact (xI0_2 hk (xI2_3 L o' hf hn h1 h2) (funFrames_of hr fun b hb=>k b (by
      rw [List.filterMap_cons,hf];exact .tail _ hb)))
theorem orel_code {m:MO} {ob:Obj} {vs:Array Value} {q:Str} {t:Tok} (h:ORel m ob) (e:ob.data = .fields vs) (e2:vs[1]? = some (.str q t)):False:=by
  cases m with
  | list => obtain ⟨i,n,hd,_⟩ := h;subst hd;cases e
  | tup => obtain ⟨i,n,hd,_⟩ := h;subst hd;cases e
  | dict => obtain ⟨_,i,n,hd,_⟩ := h;rw [e] at hd;cases hd
  | inst => cases h;cases e
  | attrs => obtain ⟨i,n,hd,_⟩ := h;subst hd;cases e
  | barr => obtain ⟨_,i,hd,_⟩ := h;rw [e] at hd;cases hd
  | exc => obtain ⟨i,dd,_,hd⟩ := h;subst hd;cases e;cases e2
theorem St.update (C:CxOk G c) (x:St G c o H ls s) {a:Addr} {m₀ m:MO} {ob:Obj} (hH:H a = some m₀) (hs:Heap.SameBut a s.heap s'.heap) (hob:s'.heap.get? a = some ob) (hm:ORel m ob)
    (hg:s'.gens = s.gens) (hos:s'.os = s.os):St G c o (upd H a m) ls s':=by
  refine xA0_4 (x.own a m₀ hH) ?_;intro g1 g2 g3 g4 hT1;refine xA1_1 hT1 ?_;(try clear hT1);intro ob₀ g5 g6
  have hk:∀ b o,b ≠ a -> s.heap.get? b = some o -> s'.heap.get? b = some o:=fun b o hb e=>(hs.2 b hb).trans e
  have hex:∀ b o,s.heap.get? b = some o -> ∃ o',s'.heap.get? b = some o':=fun b o e=>by
    by_cases q:b = a
    · exact ⟨ob,q ▸ hob⟩
    · exact ⟨o,hk b o q e⟩
  have ne_of:∀ {b},H b = none -> b ≠ a:=fun h q=>by rw [q,hH] at h;cases h
  have hcell:∀ y ca,c.env.cells.lookup y = some ca -> ca ≠ a:=fun y ca e=>ne_of (x.free y ca e).1
  refine ⟨hg.trans x.gens,hos.trans x.os,fun b y e=>hk b y (fun q=>by rw [q,g1] at e;cases e) (x.base b y e),fun b mb e=>?_,fun b hb=>?_,fun y ca e=>?_,?_,?_,?_,?_⟩
  · by_cases q:b = a
    · subst q;rw [upd_self] at e;cases e
      exact (xI0_4 g1 g2 g3 g4 (xI1_1 ob hob hm))
    · rw [upd_ne _ _ q] at e
      refine xA0_4 (x.own b mb e) ?_;intro h1 h2 h3 h4 hT1;refine xA1_1 hT1 ?_;(try clear hT1);intro ob' h5 h6
      exact (xI0_4 h1 h2 h3 h4 (xI1_1 ob' (hk _ _ q h5) h6))
  · refine xA0_1 (x.ownEx b hb) ?_;intro h1 hT1;refine xA1_0 hT1 ?_;(try clear hT1);intro ob' h2
    exact ⟨h1,hex b ob' h2⟩
  · refine xA0_1 (x.free y ca e) ?_;intro h1 hT1;refine xA1_0 hT1 ?_;(try clear hT1);intro oc h2
    rw [upd_ne _ _ (hcell y ca e)]
    exact ⟨h1,⟨ oc,hk _ _ (hcell y ca e) h2⟩⟩
  · refine xA1_2 x.tab ?_;intro ps h1 h2 h3
    refine (xI1_2 ps (hk _ _ (Ne.symm g2) h1) h2 (fun p hp cv hc=>?_))
    refine xA4_3 (h3 p hp cv hc) ?_;intro ca oc vs t e1 e2 e3 e4
    refine (xI4_3 ca oc vs t e1 (hk _ _ (fun q=>?_) e2) e3 e4)
    subst q
    rw [e2] at g5;cases g5
    exact orel_code g6 e3 e4
  · refine xA1_1 x.frame.loc ?_;intro mm hn hl
    refine ⟨(xI1_1 mm (hn.sameBut hs (fun q=>g3 (q ▸ C.loc))) hl),fun i y hi hy=>?_⟩
    refine xA2_2 (x.frame.cell i y hi hy) ?_;intro ca u h1 h2 h3
    exact (xI2_2 ca u h1 (h2.sameBut hs (hcell y ca h1)) h3)
  · exact funFrames_of x.fr fun b hb y e hne=>(xI1_1 y (hk b y (fun q=>g4 (q ▸ hb)) e) hne)
  · refine ⟨fun b y h1 h2 h3 h4 h5=>hk b y (ne_of (x.tr.claim b y h1 h2)) (x.tr.keep b y h1 h2 h3 h4 h5),fun b y h1 h2 h3=>?_,fun b y h1 h2=>?_,fun b y e=>?_⟩
    · refine xA1_0 (x.tr.frm b y h1 h2 h3) ?_;intro sl e
      exact ⟨sl,hk _ _ (fun q=>g4 (q ▸ h2)) e⟩
    · rw [upd_ne _ _ (ne_of (x.tr.claim b y h1 h2))];exact x.tr.claim b y h1 h2
    · refine xA1_0 (x.tr.ex b y e) ?_;intro z hz
      exact hex b z hz
theorem St.ownChange (C:CxOk G c) (x:St G c o H ls s) {ls':List V} {a:Addr} {ob:Obj} (ha:a ∈ c.own) (hs:Heap.SameBut a s.heap s'.heap) (hob:s'.heap.get? a = some ob) (hnf:∀ vs,ob.data ≠ .fields vs)
    (hold:∀ ob₀,s.heap.get? a = some ob₀ -> ∀ vs,ob₀.data ≠ .fields vs) (hfr:FrameOk c ls' s'.heap)
    (hg:s'.gens = s.gens) (hos:s'.os = s.os):St G c o H ls' s':=by
  refine xA0_1 (x.ownEx a ha) ?_;intro g1 hT1;refine xA1_0 hT1 ?_;(try clear hT1);intro ob₀ g5
  have hk:∀ b o,b ≠ a -> s.heap.get? b = some o -> s'.heap.get? b = some o:=fun b o hb e=>(hs.2 b hb).trans e
  have hex:∀ b o,s.heap.get? b = some o -> ∃ o',s'.heap.get? b = some o':=fun b o e=>by
    by_cases q:b = a
    · exact ⟨ob,q ▸ hob⟩
    · exact ⟨o,hk b o q e⟩
  refine ⟨hg.trans x.gens,hos.trans x.os,fun b y e=>hk b y (fun q=>by rw [q,g1] at e;cases e) (x.base b y e),fun b mb e=>?_,fun b hb=>?_,fun y ca e=>?_,?_,hfr,?_,?_⟩
  · refine xA0_4 (x.own b mb e) ?_;intro h1 h2 h3 h4 hT1;refine xA1_1 hT1 ?_;(try clear hT1);intro ob' h5 h6
    exact (xI0_4 h1 h2 h3 h4 (xI1_1 ob' (hk _ _ (fun q=>h3 (q ▸ ha)) h5) h6))
  · refine xA0_1 (x.ownEx b hb) ?_;intro h1 hT1;refine xA1_0 hT1 ?_;(try clear hT1);intro ob' h2
    exact ⟨h1,hex b ob' h2⟩
  · refine xA0_1 (x.free y ca e) ?_;intro h1 hT1;refine xA1_0 hT1 ?_;(try clear hT1);intro oc h2
    exact ⟨h1,hex _ _ h2⟩
  · refine xA1_2 x.tab ?_;intro ps h1 h2 h3
    refine (xI1_2 ps (hk _ _ (fun q=>C.noP (q ▸ ha)) h1) h2 (fun p hp cv hc=>?_))
    refine xA4_3 (h3 p hp cv hc) ?_;intro ca oc vs t e1 e2 e3 e4
    refine (xI4_3 ca oc vs t e1 (hk _ _ (fun q=>?_) e2) e3 e4)
    subst q
    exact hold _ e2 _ e3
  · refine funFrames_of x.fr fun b hb y e hne=>?_
    by_cases q:b = a
    · exact (xI1_1 ob (q ▸ hob) hnf)
    · exact (xI1_1 y (hk b y q e) hne)
  · refine ⟨fun b y h1 h2 h3 h4 h5=>hk b y (fun q=>h4 (q ▸ ha)) (x.tr.keep b y h1 h2 h3 h4 h5),fun b y h1 h2 h3=>?_,x.tr.claim,fun b y e=>?_⟩
    · refine xA1_0 (x.tr.frm b y h1 h2 h3) ?_;intro sl e
      exact ⟨sl,hk _ _ (fun q=>h3 (q ▸ ha)) e⟩
    · refine xA1_0 (x.tr.ex b y e) ?_;intro z hz
      exact hex b z hz
end
noncomputable abbrev QV:=V -> MH -> Prop
noncomputable abbrev QB:=Bool -> MH -> Prop
noncomputable abbrev QL:=List V -> MH -> Prop
noncomputable abbrev XP:=Addr -> MH -> Prop
noncomputable abbrev WV:=QV -> XP -> MH -> Prop
noncomputable abbrev WE:=List V -> WV
noncomputable abbrev WT:=List V -> QB -> XP -> MH -> Prop
noncomputable abbrev WS:=List V -> QL -> QV -> XP -> MH -> Prop
noncomputable abbrev WL:=List V -> QL -> XP -> MH -> Prop
noncomputable def br (x:Bool) (A B:Prop):Prop:=Bool.casesOn (motive:=fun zz=>Prop) x B A
theorem br_t {A B:Prop}:br true A B = A:=rfl
theorem br_f {A B:Prop}:br false A B = B:=rfl
noncomputable def onSome {α:Type} (o:Option α) (f:α -> Prop):Prop:=Option.casesOn (motive:=fun zz=>Prop) o False f
theorem onSome_mk {α:Type} {a:α} {f:α -> Prop}:onSome (some a) f = f a:=rfl
theorem onSome_k {α:Type} {o:Option α} {f:α -> Prop} {g:Prop} (h:onSome o f) (k:∀ a,o = some a -> f a -> g):g:=by
  cases o
  · exact h.elim
  · exact k _ rfl h
noncomputable def onInt (v:V) (f:Int -> Prop):Prop:=V.casesOn (motive:=fun zz=>Prop) v False False (fun zz=>False) f (fun zz=>False) (fun zz=>False) (fun zz=>False) (fun zz=>False) (fun zz=>False) False
noncomputable def onRef (v:V) (f:Addr -> Prop):Prop:=V.casesOn (motive:=fun zz=>Prop) v False False (fun zz=>False) (fun zz=>False) (fun zz=>False) (fun zz=>False) f (fun zz=>False) (fun zz=>False) False
noncomputable def onTy (v:V) (f:String -> Prop):Prop:=V.casesOn (motive:=fun zz=>Prop) v False False (fun zz=>False) (fun zz=>False) (fun zz=>False) (fun zz=>False) (fun zz=>False) f (fun zz=>False) False
noncomputable def onV (v:V) (n:Prop) (b:Bool -> Prop) (i:Int -> Prop) (y:List Nat -> Prop) (r:Addr -> Prop):Prop:=V.casesOn (motive:=fun zz=>Prop) v False n b i (fun zz=>False) y r (fun zz=>False) (fun zz=>False) False
theorem onInt_mk {a:Int} {f:Int -> Prop}:onInt (.int a) f = f a:=rfl
theorem onRef_mk {a:Addr} {f:Addr -> Prop}:onRef (.ref a) f = f a:=rfl
theorem onTy_mk {a:String} {f:String -> Prop}:onTy (.type a) f = f a:=rfl
theorem onV_none {n:Prop} {b:Bool -> Prop} {i:Int -> Prop} {y:List Nat -> Prop} {r:Addr -> Prop}:onV .none n b i y r = n:=rfl
theorem onV_bool {a:Bool} {n:Prop} {b:Bool -> Prop} {i:Int -> Prop} {y:List Nat -> Prop} {r:Addr -> Prop}:onV (.bool a) n b i y r = b a:=rfl
theorem onV_int {a:Int} {n:Prop} {b:Bool -> Prop} {i:Int -> Prop} {y:List Nat -> Prop} {r:Addr -> Prop}:onV (.int a) n b i y r = i a:=rfl
theorem onV_bytes {a:List Nat} {n:Prop} {b:Bool -> Prop} {i:Int -> Prop} {y:List Nat -> Prop} {r:Addr -> Prop}:onV (.bytes a) n b i y r = y a:=rfl
theorem onV_ref {a:Addr} {n:Prop} {b:Bool -> Prop} {i:Int -> Prop} {y:List Nat -> Prop} {r:Addr -> Prop}:onV (.ref a) n b i y r = r a:=rfl
theorem onInt_k {v:Value} {f:Int -> Prop} {g:Prop} (h:onInt (er v) f) (k:∀ a t,v = .int a t -> f a -> g):g:=by
  cases v <;> first | exact (show False from h).elim | exact k _ _ rfl h
theorem onRef_k {v:Value} {f:Addr -> Prop} {g:Prop} (h:onRef (er v) f) (k:∀ a,v = .ref a -> f a -> g):g:=by
  cases v <;> first | exact (show False from h).elim | exact k _ rfl h
theorem onRef_v {v:V} {f:Addr -> Prop} {g:Prop} (h:onRef v f) (k:∀ a,v = .ref a -> f a -> g):g:=by
  cases v <;> first | exact (show False from h).elim | exact k _ rfl h
theorem onTy_k {v:Value} {f:String -> Prop} {g:Prop} (h:onTy (er v) f) (k:∀ a,v = .type a -> f a -> g):g:=by
  cases v <;> first | exact (show False from h).elim | exact k _ rfl h
theorem onV_k {v:Value} {n:Prop} {b:Bool -> Prop} {i:Int -> Prop} {y:List Nat -> Prop} {r:Addr -> Prop} {g:Prop} (h:onV (er v) n b i y r) (k1:v = .none -> n -> g) (k2:∀ a,v = .bool a -> b a -> g) (k3:∀ a t,v = .int a t -> i a -> g)
    (k4:∀ a t,v = .bytes a t -> y (a.toList.map UInt8.toNat) -> g) (k5:∀ a,v = .ref a -> r a -> g):g:=by
  cases v <;> first | exact (show False from h).elim | exact k1 rfl h | exact k2 _ rfl h | exact k3 _ _ rfl h | exact k4 _ _ rfl h | exact k5 _ rfl h
noncomputable def on1 (vs:List V) (f:V -> Prop):Prop:=List.casesOn (motive:=fun zz=>Prop) vs False fun a r=>List.casesOn (motive:=fun zz=>Prop) r (f a) fun zz zz=>False
noncomputable def on2 (vs:List V) (f:V -> V -> Prop):Prop:=List.casesOn (motive:=fun zz=>Prop) vs False fun a r=>on1 r (f a)
noncomputable def on3 (vs:List V) (f:V -> V -> V -> Prop):Prop:=List.casesOn (motive:=fun zz=>Prop) vs False fun a r=>on2 r (f a)
noncomputable def on12 (vs:List V) (f:V -> Prop) (g:V -> V -> Prop):Prop:=List.casesOn (motive:=fun zz=>Prop) vs False fun a r=>List.casesOn (motive:=fun zz=>Prop) r (f a) fun b r=>List.casesOn (motive:=fun zz=>Prop) r (g a b) fun zz zz=>False
theorem on1_mk {a:V} {f:V -> Prop}:on1 [a] f = f a:=rfl
theorem on2_mk {a b:V} {f:V -> V -> Prop}:on2 [a,b] f = f a b:=rfl
theorem on3_mk {a b c:V} {f:V -> V -> V -> Prop}:on3 [a,b,c] f = f a b c:=rfl
theorem on12_1 {a:V} {f:V -> Prop} {g:V -> V -> Prop}:on12 [a] f g = f a:=rfl
theorem on12_2 {a b:V} {f:V -> Prop} {g:V -> V -> Prop}:on12 [a,b] f g = g a b:=rfl
theorem on1_k {vs:List Value} {f:V -> Prop} {g:Prop} (h:on1 (vs.map er) f) (k:∀ a,vs = [a] -> f (er a) -> g):g:=by
  cases vs with
  | nil => exact (show False from h).elim
  | cons a r => cases r with
    | nil => exact k _ rfl h
    | cons => exact (show False from h).elim
theorem on2_k {vs:List Value} {f:V -> V -> Prop} {g:Prop} (h:on2 (vs.map er) f) (k:∀ a b,vs = [a,b] -> f (er a) (er b) -> g):g:=by
  cases vs with
  | nil => exact (show False from h).elim
  | cons a r => exact on1_k (vs := r) h fun b e h => k a b (by rw [e]) h
theorem on3_k {vs:List Value} {f:V -> V -> V -> Prop} {g:Prop} (h:on3 (vs.map er) f) (k:∀ a b c,vs = [a,b,c] -> f (er a) (er b) (er c) -> g):g:=by
  cases vs with
  | nil => exact (show False from h).elim
  | cons a r => exact on2_k (vs := r) h fun b c e h => k a b c (by rw [e]) h
theorem on12_k {vs:List Value} {f:V -> Prop} {f2:V -> V -> Prop} {g:Prop} (h:on12 (vs.map er) f f2) (k1:∀ a,vs = [a] -> f (er a) -> g) (k2:∀ a b,vs = [a,b] -> f2 (er a) (er b) -> g):g:=by
  cases vs with
  | nil => exact (show False from h).elim
  | cons a r => cases r with
    | nil => exact k1 _ rfl h
    | cons b r => cases r with
      | nil => exact k2 _ _ rfl h
      | cons => exact (show False from h).elim
noncomputable def onMO (m:Option MO) (l t:List V -> Prop) (d:(Int -> Option V) -> Nat -> Prop) (i:Addr -> Addr -> Prop) (a:List (String × V) -> Prop) (b:List Nat -> Prop) (e:Addr -> Bool -> Prop):Prop :=
  Option.casesOn (motive:=fun zz=>Prop) m False fun m=>MO.casesOn (motive:=fun zz=>Prop) m l t d i a b e
@[irreducible] noncomputable def onList (m:Option MO) (f:List V -> Prop):Prop:=onMO m f (fun zz=>False) (fun zz zz=>False) (fun zz zz=>False) (fun zz=>False) (fun zz=>False) fun zz zz=>False
@[irreducible] noncomputable def onTup (m:Option MO) (f:List V -> Prop):Prop:=onMO m (fun zz=>False) f (fun zz zz=>False) (fun zz zz=>False) (fun zz=>False) (fun zz=>False) fun zz zz=>False
@[irreducible] noncomputable def onDict (m:Option MO) (f:(Int -> Option V) -> Nat -> Prop):Prop:=onMO m (fun zz=>False) (fun zz=>False) f (fun zz zz=>False) (fun zz=>False) (fun zz=>False) fun zz zz=>False
@[irreducible] noncomputable def onInst (m:Option MO) (f:Addr -> Addr -> Prop):Prop:=onMO m (fun zz=>False) (fun zz=>False) (fun zz zz=>False) f (fun zz=>False) (fun zz=>False) fun zz zz=>False
@[irreducible] noncomputable def onAttrs (m:Option MO) (f:List (String × V) -> Prop):Prop:=onMO m (fun zz=>False) (fun zz=>False) (fun zz zz=>False) (fun zz zz=>False) f (fun zz=>False) fun zz zz=>False
@[irreducible] noncomputable def onBarr (m:Option MO) (f:List Nat -> Prop):Prop:=onMO m (fun zz=>False) (fun zz=>False) (fun zz zz=>False) (fun zz zz=>False) (fun zz=>False) f fun zz zz=>False
@[irreducible] noncomputable def onExc (m:Option MO) (f:Addr -> Bool -> Prop):Prop:=onMO m (fun zz=>False) (fun zz=>False) (fun zz zz=>False) (fun zz zz=>False) (fun zz=>False) (fun zz=>False) f
@[irreducible] noncomputable def onLD (m:Option MO) (f:List V -> Prop) (g:(Int -> Option V) -> Nat -> Prop):Prop:=onMO m f (fun zz=>False) g (fun zz zz=>False) (fun zz=>False) (fun zz=>False) fun zz zz=>False
@[irreducible] noncomputable def onLB (m:Option MO) (f:List V -> Prop) (g:List Nat -> Prop):Prop:=onMO m f (fun zz=>False) (fun zz zz=>False) (fun zz zz=>False) (fun zz=>False) g fun zz zz=>False
theorem onList_mk {x:List V} {f:List V -> Prop}:onList (some (.list x)) f = f x:=by unfold onList;rfl
theorem onTup_mk {x:List V} {f:List V -> Prop}:onTup (some (.tup x)) f = f x:=by unfold onTup;rfl
theorem onDict_mk {x:Int -> Option V} {k:Nat} {f:(Int -> Option V) -> Nat -> Prop}:onDict (some (.dict x k)) f = f x k:=by unfold onDict;rfl
theorem onInst_mk {x k:Addr} {f:Addr -> Addr -> Prop}:onInst (some (.inst x k)) f = f x k:=by unfold onInst;rfl
theorem onAttrs_mk {x:List (String × V)} {f:List (String × V) -> Prop}:onAttrs (some (.attrs x)) f = f x:=by unfold onAttrs;rfl
theorem onBarr_mk {x:List Nat} {f:List Nat -> Prop}:onBarr (some (.barr x)) f = f x:=by unfold onBarr;rfl
theorem onExc_mk {x:Addr} {b:Bool} {f:Addr -> Bool -> Prop}:onExc (some (.exc x b)) f = f x b:=by unfold onExc;rfl
theorem onLD_l {x:List V} {f:List V -> Prop} {g:(Int -> Option V) -> Nat -> Prop}:onLD (some (.list x)) f g = f x:=by unfold onLD;rfl
theorem onLD_d {x:Int -> Option V} {k:Nat} {f:List V -> Prop} {g:(Int -> Option V) -> Nat -> Prop}:onLD (some (.dict x k)) f g = g x k:=by unfold onLD;rfl
theorem onLB_l {x:List V} {f:List V -> Prop} {g:List Nat -> Prop}:onLB (some (.list x)) f g = f x:=by unfold onLB;rfl
theorem onLB_b {x:List Nat} {f:List V -> Prop} {g:List Nat -> Prop}:onLB (some (.barr x)) f g = g x:=by unfold onLB;rfl
theorem onList_of {m:Option MO} {f:List V -> Prop} {x:List V} (e:m = some (.list x)) (h:f x):onList m f:=by rw [e,onList_mk];exact h
theorem onTup_of {m:Option MO} {f:List V -> Prop} {x:List V} (e:m = some (.tup x)) (h:f x):onTup m f:=by rw [e,onTup_mk];exact h
theorem onDict_of {m:Option MO} {f:(Int -> Option V) -> Nat -> Prop} {x:Int -> Option V} {k:Nat} (e:m = some (.dict x k)) (h:f x k):onDict m f:=by rw [e,onDict_mk];exact h
theorem onInst_of {m:Option MO} {f:Addr -> Addr -> Prop} {x k:Addr} (e:m = some (.inst x k)) (h:f x k):onInst m f:=by rw [e,onInst_mk];exact h
theorem onAttrs_of {m:Option MO} {f:List (String × V) -> Prop} {x:List (String × V)} (e:m = some (.attrs x)) (h:f x):onAttrs m f:=by rw [e,onAttrs_mk];exact h
theorem onBarr_of {m:Option MO} {f:List Nat -> Prop} {x:List Nat} (e:m = some (.barr x)) (h:f x):onBarr m f:=by rw [e,onBarr_mk];exact h
theorem onExc_of {m:Option MO} {f:Addr -> Bool -> Prop} {x:Addr} {b:Bool} (e:m = some (.exc x b)) (h:f x b):onExc m f:=by rw [e,onExc_mk];exact h
theorem onLD_ofL {m:Option MO} {f:List V -> Prop} {g:(Int -> Option V) -> Nat -> Prop} {x:List V} (e:m = some (.list x)) (h:f x):onLD m f g:=by rw [e,onLD_l];exact h
theorem onLD_ofD {m:Option MO} {f:List V -> Prop} {g:(Int -> Option V) -> Nat -> Prop} {x:Int -> Option V} {k:Nat} (e:m = some (.dict x k)) (h:g x k):onLD m f g:=by rw [e,onLD_d];exact h
theorem onLB_ofL {m:Option MO} {f:List V -> Prop} {g:List Nat -> Prop} {x:List V} (e:m = some (.list x)) (h:f x):onLB m f g:=by rw [e,onLB_l];exact h
theorem onLB_ofB {m:Option MO} {f:List V -> Prop} {g:List Nat -> Prop} {x:List Nat} (e:m = some (.barr x)) (h:g x):onLB m f g:=by rw [e,onLB_b];exact h
theorem onMO_k {m:Option MO} {l t:List V -> Prop} {d:(Int -> Option V) -> Nat -> Prop} {i:Addr -> Addr -> Prop} {a:List (String × V) -> Prop} {b:List Nat -> Prop} {e:Addr -> Bool -> Prop} {g:Prop} (h:onMO m l t d i a b e)
    (k1:∀ x,m = some (.list x) -> l x -> g) (k2:∀ x,m = some (.tup x) -> t x -> g) (k3:∀ x k,m = some (.dict x k) -> d x k -> g) (k4:∀ x k,m = some (.inst x k) -> i x k -> g) (k5:∀ x,m = some (.attrs x) -> a x -> g) (k6:∀ x,m = some (.barr x) -> b x -> g) (k7:∀ x k,m = some (.exc x k) -> e x k -> g):g:=by
  cases m with
  | none => exact h.elim
  | some m => cases m with
    | list => exact k1 _ rfl h
    | tup => exact k2 _ rfl h
    | dict => exact k3 _ _ rfl h
    | inst => exact k4 _ _ rfl h
    | attrs => exact k5 _ rfl h
    | barr => exact k6 _ rfl h
    | exc => exact k7 _ _ rfl h
theorem onList_k {m:Option MO} {f:List V -> Prop} {g:Prop} (h:onList m f) (k:∀ x,m = some (.list x) -> f x -> g):g:=by unfold onList at h;exact onMO_k h k (fun zz zz h=>h.elim) (fun zz zz zz h=>h.elim) (fun zz zz zz h=>h.elim) (fun zz zz h=>h.elim) (fun zz zz h=>h.elim) fun zz zz zz h=>h.elim
theorem onTup_k {m:Option MO} {f:List V -> Prop} {g:Prop} (h:onTup m f) (k:∀ x,m = some (.tup x) -> f x -> g):g:=by unfold onTup at h;exact onMO_k h (fun zz zz h=>h.elim) k (fun zz zz zz h=>h.elim) (fun zz zz zz h=>h.elim) (fun zz zz h=>h.elim) (fun zz zz h=>h.elim) fun zz zz zz h=>h.elim
theorem onDict_k {m:Option MO} {f:(Int -> Option V) -> Nat -> Prop} {g:Prop} (h:onDict m f) (k:∀ x k,m = some (.dict x k) -> f x k -> g):g:=by unfold onDict at h;exact onMO_k h (fun zz zz h=>h.elim) (fun zz zz h=>h.elim) k (fun zz zz zz h=>h.elim) (fun zz zz h=>h.elim) (fun zz zz h=>h.elim) fun zz zz zz h=>h.elim
theorem onInst_k {m:Option MO} {f:Addr -> Addr -> Prop} {g:Prop} (h:onInst m f) (k:∀ x k,m = some (.inst x k) -> f x k -> g):g:=by unfold onInst at h;exact onMO_k h (fun zz zz h=>h.elim) (fun zz zz h=>h.elim) (fun zz zz zz h=>h.elim) k (fun zz zz h=>h.elim) (fun zz zz h=>h.elim) fun zz zz zz h=>h.elim
theorem onAttrs_k {m:Option MO} {f:List (String × V) -> Prop} {g:Prop} (h:onAttrs m f) (k:∀ x,m = some (.attrs x) -> f x -> g):g:=by unfold onAttrs at h;exact onMO_k h (fun zz zz h=>h.elim) (fun zz zz h=>h.elim) (fun zz zz zz h=>h.elim) (fun zz zz zz h=>h.elim) k (fun zz zz h=>h.elim) fun zz zz zz h=>h.elim
theorem onBarr_k {m:Option MO} {f:List Nat -> Prop} {g:Prop} (h:onBarr m f) (k:∀ x,m = some (.barr x) -> f x -> g):g:=by unfold onBarr at h;exact onMO_k h (fun zz zz h=>h.elim) (fun zz zz h=>h.elim) (fun zz zz zz h=>h.elim) (fun zz zz zz h=>h.elim) (fun zz zz h=>h.elim) k fun zz zz zz h=>h.elim
theorem onExc_k {m:Option MO} {f:Addr -> Bool -> Prop} {g:Prop} (h:onExc m f) (k:∀ x k,m = some (.exc x k) -> f x k -> g):g:=by unfold onExc at h;exact onMO_k h (fun zz zz h=>h.elim) (fun zz zz h=>h.elim) (fun zz zz zz h=>h.elim) (fun zz zz zz h=>h.elim) (fun zz zz h=>h.elim) (fun zz zz h=>h.elim) k
theorem onLD_k {m:Option MO} {f:List V -> Prop} {f2:(Int -> Option V) -> Nat -> Prop} {g:Prop} (h:onLD m f f2) (k:∀ x,m = some (.list x) -> f x -> g) (k2:∀ x k,m = some (.dict x k) -> f2 x k -> g):g:=by unfold onLD at h;exact onMO_k h k (fun zz zz h=>h.elim) k2 (fun zz zz zz h=>h.elim) (fun zz zz h=>h.elim) (fun zz zz h=>h.elim) fun zz zz zz h=>h.elim
theorem onLB_k {m:Option MO} {f:List V -> Prop} {f2:List Nat -> Prop} {g:Prop} (h:onLB m f f2) (k:∀ x,m = some (.list x) -> f x -> g) (k2:∀ x,m = some (.barr x) -> f2 x -> g):g:=by unfold onLB at h;exact onMO_k h k (fun zz zz h=>h.elim) (fun zz zz zz h=>h.elim) (fun zz zz zz h=>h.elim) (fun zz zz h=>h.elim) k2 fun zz zz zz h=>h.elim
noncomputable def AOk (n:Nat) (c:Cx) (A:Around):Prop:=A.frames = some c.stack /\ A.handled = none /\ A.depth + 4 * n <= 980 /\ A.units + 60 * n <= 9800
theorem AOk.le {n m:Nat} {c:Cx} {A:Around} (h:AOk n c A) (hm:m <= n):AOk m c A:=(xI0_3 h.1 h.2.1 (by have:=h.2.2.1;lia) (by have:=h.2.2.2;lia))
structure New (G:Gl) (c:Cx) (o:Org) (H:MH) (h:Heap) (a:Addr):Prop where
  base:G.h₀.get? a = none
  H:H a = none
  P:a ≠ G.P
  own:a ∉ c.own
  frm:a ∉ c.frames
  org:∀ x,o.h.get? a ≠ some x
  cell:∀ x,c.env.cells.lookup x ≠ some a
  tab:∀ ps,h.get? G.P = some (tabObj ps) -> ∀ p ∈ G.lams,codeAmong p.1 ps.toList ≠ some (.ref a)
noncomputable def Flight (G:Gl) (c:Cx) (o:Org) (H:MH) (ea C:Addr) (h:Heap):Prop :=
  ∃ oe vs a0,h.get? ea = some oe /\ oe.cls = .ref C /\ oe.data = .fields vs /\ vs[0]? = some a0 /\ New G c o H h ea /\
    (vs[1]? = some .none ∨ ∃ T oT ts,vs[1]? = some (.ref T) /\ T ≠ ea /\ New G c o H h T /\ h.get? T = some oT /\ oT.data = .fields ts /\ (ts[3]? = some .none ∨ ∃ L,c.env.frame = some L /\ ts[3]? = some (rawInt L)))
noncomputable def RV (G:Gl) (c:Cx) (o:Org) (ls:List V) (Q:QV) (v:Value) (s':Shared):Prop:=∃ H',St G c o H' ls s' /\ Q (er v) H'
noncomputable def RB (G:Gl) (c:Cx) (o:Org) (ls:List V) (Q:QB) (b:Bool) (s':Shared):Prop:=∃ H',St G c o H' ls s' /\ Q b H'
noncomputable def RL (G:Gl) (c:Cx) (o:Org) (ls:List V) (Q:QL) (vs:List Value) (s':Shared):Prop:=∃ H',St G c o H' ls s' /\ Q (vs.map er) H'
noncomputable def RU (G:Gl) (c:Cx) (o:Org) (Q:QL) (_:Unit) (s':Shared):Prop:=∃ ls' H',St G c o H' ls' s' /\ Q ls' H'
noncomputable def PX (G:Gl) (c:Cx) (o:Org) (ls:List V) (X:XP) (e:Value) (s':Shared):Prop:=∃ ea C H',e = .ref ea /\ St G c o H' ls s' /\ X C H' /\ Flight G c o H' ea C s'.heap
noncomputable def PXs (G:Gl) (c:Cx) (o:Org) (X:XP) (e:Value) (s':Shared):Prop:=∃ ls,PX G c o ls X e s'
noncomputable def RF (G:Gl) (c:Cx) (o:Org) (Qn:QL) (Qr:QV) (f:Flow) (s':Shared):Prop:=match f with
  | .next => ∃ ls' H',St G c o H' ls' s' /\ Qn ls' H'
  | .ret v => ∃ ls' H',St G c o H' ls' s' /\ Qr (er v) H'
  | _ => False
noncomputable def SE (G:Gl) (c:Cx) (n:Nat) (e:Expr) (w:WE):Prop :=
  ∀ A o s H ls Q X,AOk n c A -> St G c o H ls s -> w ls Q X H -> wpAny (model G.prog G.w) A (eval e c.env) (RV G c o ls Q) (PX G c o ls X) s
noncomputable def SEs (G:Gl) (c:Cx) (n:Nat) (es:List Expr) (w:WL):Prop :=
  ∀ A o s H ls Q X (pos:Pos),AOk n c A -> St G c o H ls s -> w ls Q X H -> wpAny (model G.prog G.w) A (spliced (backTo pos (starEach es c.env))) (RL G c o ls Q) (PX G c o ls X) s
noncomputable def ST (G:Gl) (c:Cx) (n:Nat) (e:Expr) (w:WT):Prop :=
  ∀ A o s H ls Q X,AOk n c A -> St G c o H ls s -> w ls Q X H -> wpAny (model G.prog G.w) A (isTrue e c.env (eval e c.env)) (RB G c o ls Q) (PX G c o ls X) s
noncomputable def STs (G:Gl) (c:Cx) (n:Nat) (op:BoolOp) (es:List Expr) (w:WT):Prop :=
  ∀ A o s H ls Q X,AOk n c A -> St G c o H ls s -> w ls Q X H -> wpAny (model G.prog G.w) A (allTrue op es c.env) (RB G c o ls Q) (PX G c o ls X) s
noncomputable def SS (G:Gl) (c:Cx) (n:Nat) (st:Stmt) (w:WS):Prop :=
  ∀ A o s H ls Qn Qr X,AOk n c A -> St G c o H ls s -> w ls Qn Qr X H -> wpAny (model G.prog G.w) A (exec st c.env) (RF G c o Qn Qr) (PXs G c o X) s
noncomputable def SB (G:Gl) (c:Cx) (n:Nat) (b:List Stmt) (w:WS):Prop :=
  ∀ A o s H ls Qn Qr X,AOk n c A -> St G c o H ls s -> w ls Qn Qr X H -> wpAny (model G.prog G.w) A (execs b c.env) (RF G c o Qn Qr) (PXs G c o X) s
noncomputable def SA (G:Gl) (c:Cx) (n:Nat) (t:Expr) (w:V -> WS):Prop :=
  ∀ A o s H ls Qn Qr X v,AOk n c A -> St G c o H ls s -> w (er v) ls Qn Qr X H -> wpAny (model G.prog G.w) A (assign t c.env v) (RU G c o Qn) (PXs G c o X) s
section
variable {G:Gl} {c:Cx} {n:Nat} {A:Around} {o:Org} {s:Shared} {H:MH} {ls:List V} {X:XP} {E:Value -> Shared -> Prop}
theorem SE.go {e:Expr} {w:WE} (ha:SE G c n e w) {Q:QV} (hA:AOk n c A) (hs:St G c o H ls s) (h:w ls Q X H) {R:Value -> Shared -> Prop} (k:∀ v s1 H1,St G c o H1 ls s1 -> Q (er v) H1 -> R v s1) (kx:∀ e s1,PX G c o ls X e s1 -> E e s1):wpAny (model G.prog G.w) A (eval e c.env) R E s :=
  wpAny_mono (ha A o s H ls Q X hA hs h) (fun v s1 h=>h.elim fun H1 h=>k v s1 H1 h.1 h.2) kx
theorem SE.val {e:Expr} {u:V} (ha:SE G c n e (fun zz Q zz H=>Q u H)) (hA:AOk n c A) (hs:St G c o H ls s) {R:Value -> Shared -> Prop} (k:∀ v s1,St G c o H ls s1 -> er v = u -> R v s1) (kx:∀ e s1,PX G c o ls X e s1 -> E e s1):wpAny (model G.prog G.w) A (eval e c.env) R E s :=
  ha.go (Q:=fun v H'=>v = u /\ H' = H) hA hs ⟨rfl,rfl⟩ (fun v s1 H1 hs1 h=>k v s1 (h.2 ▸ hs1) h.1) kx
theorem SEs.go {es:List Expr} {w:WL} (ha:SEs G c n es w) {Q:QL} {pos:Pos} (hA:AOk n c A) (hs:St G c o H ls s) (h:w ls Q X H) {R:List Value -> Shared -> Prop} (k:∀ v s1 H1,St G c o H1 ls s1 -> Q (v.map er) H1 -> R v s1) (kx:∀ e s1,PX G c o ls X e s1 -> E e s1):wpAny (model G.prog G.w) A (spliced (backTo pos (starEach es c.env))) R E s :=
  wpAny_mono (ha A o s H ls Q X pos hA hs h) (fun v s1 h=>h.elim fun H1 h=>k v s1 H1 h.1 h.2) kx
theorem ST.go {e:Expr} {w:WT} (ha:ST G c n e w) {Q:QB} (hA:AOk n c A) (hs:St G c o H ls s) (h:w ls Q X H) {R:Bool -> Shared -> Prop} (k:∀ v s1 H1,St G c o H1 ls s1 -> Q v H1 -> R v s1) (kx:∀ e s1,PX G c o ls X e s1 -> E e s1):wpAny (model G.prog G.w) A (isTrue e c.env (eval e c.env)) R E s :=
  wpAny_mono (ha A o s H ls Q X hA hs h) (fun v s1 h=>h.elim fun H1 h=>k v s1 H1 h.1 h.2) kx
theorem SA.go {t:Expr} {w:V -> WS} (ha:SA G c n t w) {Qn:QL} {Qr:QV} {v:Value} (hA:AOk n c A) (hs:St G c o H ls s) (h:w (er v) ls Qn Qr X H) {R:Unit -> Shared -> Prop} (k:∀ u s1 ls1 H1,St G c o H1 ls1 s1 -> Qn ls1 H1 -> R u s1) (kx:∀ e s1,PXs G c o X e s1 -> E e s1):wpAny (model G.prog G.w) A (assign t c.env v) R E s :=
  wpAny_mono (ha A o s H ls Qn Qr X v hA hs h) (fun v s1 h=>h.elim fun ls1 h=>h.elim fun H1 h=>k v s1 ls1 H1 h.1 h.2) kx
end
section
variable {G:Gl} {c:Cx} {n:Nat}
noncomputable def wInt (i:Int):WE:=fun zz Q zz H=>Q (.int i) H
theorem r_int {i:Int} {k:Nat} {pos:Pos}:SE G c n (.Constant (.int i) k pos) (wInt i):=fun A o s H ls Q X hA hs h =>
  wpAny_Constant_int (xI1_1 H (hs.keeps (fun zz zz e=>e) rfl rfl) h)
noncomputable def wBool (b:Bool):WE:=fun zz Q zz H=>Q (.bool b) H
theorem r_bool {b:Bool} {k:Nat} {pos:Pos}:SE G c n (.Constant (.bool b) k pos) (wBool b):=fun A o s H ls Q X hA hs h =>
  wpAny_Constant_bool (xI1_1 H hs h)
noncomputable def wNone:WE:=fun zz Q zz H=>Q .none H
theorem r_none {k:Nat} {pos:Pos}:SE G c n (.Constant .none k pos) wNone:=fun A o s H ls Q X hA hs h =>
  wpAny_Constant_none (xI1_1 H hs h)
noncomputable def wStr (x:Str):WE:=fun zz Q zz H=>Q (.str x) H
theorem r_str {x:Str} {k:Nat} {pos:Pos}:SE G c n (.Constant (.str x) k pos) (wStr x):=fun A o s H ls Q X hA hs h =>
  wpAny_Constant_str (xI1_1 H (hs.keeps (fun zz zz e=>e) rfl rfl) h)
noncomputable def bnd (v:V) (p:Prop):Prop:=V.casesOn (motive:=fun zz=>Prop) v False p (fun zz=>p) (fun zz=>p) (fun zz=>p) (fun zz=>p) (fun zz=>p) (fun zz=>p) (fun zz=>p) p
theorem bnd_of {v:V} {p:Prop} (h:bnd v p):v ≠ .unb /\ p:=by
  cases v <;> first | exact (show False from h).elim | exact ⟨V.noConfusion,h⟩
theorem bnd_eq {v:V} {p:Prop} (hv:v ≠ .unb):bnd v p = p:=by
  cases v <;> first | rfl | exact (hv rfl).elim
theorem bnd_mk {v:V} {p:Prop} (hv:v ≠ .unb) (h:p):bnd v p:=by rw [bnd_eq hv];exact h
theorem bnd_ref {a:Addr} {p:Prop}:bnd (.ref a) p = p:=rfl
theorem bnd_int {a:Int} {p:Prop}:bnd (.int a) p = p:=rfl
theorem bnd_bool {a:Bool} {p:Prop}:bnd (.bool a) p = p:=rfl
theorem bnd_bytes {a:List Nat} {p:Prop}:bnd (.bytes a) p = p:=rfl
theorem bnd_str {a:Str} {p:Prop}:bnd (.str a) p = p:=rfl
theorem bnd_type {a:String} {p:Prop}:bnd (.type a) p = p:=rfl
theorem bnd_none {p:Prop}:bnd .none p = p:=rfl
noncomputable def nbi (v:V) (p:Prop):Prop:=V.casesOn (motive:=fun zz=>Prop) v p p (fun zz=>p) (fun zz=>p) (fun zz=>p) (fun zz=>p) (fun zz=>p) (fun zz=>p) (fun zz=>False) p
theorem nbi_of {v:V} {p:Prop} (h:nbi v p):(∀ i,v ≠ .bi i) /\ p:=by
  cases v <;> first | exact (show False from h).elim | exact ⟨fun zz=>V.noConfusion,h⟩
theorem nbi_int {a:Int} {p:Prop}:nbi (.int a) p = p:=rfl
theorem nbi_ref {a:Addr} {p:Prop}:nbi (.ref a) p = p:=rfl
theorem nbi_bytes {a:List Nat} {p:Prop}:nbi (.bytes a) p = p:=rfl
noncomputable def wLoc (i:Nat):WE:=fun ls Q zz H=>onSome ls[i]? fun v=>bnd v (Q v H)
theorem r_loc (C:CxOk G c) (i:Nat) {x:Str} {pos:Pos} (hi:c.names[i]? = some x:=by rfl) (hk:c.env.kindOf x = some .local:=by rfl) (hd:(x == ("__debug__" : Str)) = false:=by decide) :
    SE G c n (.Name x pos) (wLoc i):=fun A o s H ls Q X hA hs h=>by
  refine xA1_1 hs.frame.loc ?_;intro m hn hl
  refine onSome_k h fun v hv h=>?_
  have h:=bnd_of h
  refine xA1_1 (hl i x v hi hk hv h.1) ?_;intro u hu he
  exact wpAny_Name (wpAny_loadName_local C.kind hk hn hu (xI1_1 H hs (he ▸ h.2))) hd
theorem r_cell (C:CxOk G c) (i:Nat) {x:Str} {pos:Pos} (hi:c.names[i]? = some x:=by rfl) (hk:c.env.kindOf x = some .cell:=by rfl) (hd:(x == ("__debug__" : Str)) = false:=by decide) :
    SE G c n (.Name x pos) (wLoc i):=fun A o s H ls Q X hA hs h=>by
  refine xA2_2 (hs.frame.cell i x hi (by rw [hk];decide)) ?_;intro ca u h1 h2 h3
  refine onSome_k h fun v hv h=>?_
  have h:=bnd_of h
  refine xA1_1 (h3 v hv h.1) ?_;intro y hT1;subst hT1;intro he
  exact wpAny_Name (wpAny_loadName_cell C.kind hk h1 h2 (xI1_1 H hs (he ▸ h.2))) hd
theorem r_free (C:CxOk G c) (i:Nat) {x:Str} {pos:Pos} (hi:c.names[i]? = some x:=by rfl) (hk:c.env.kindOf x = some .free:=by rfl) (hd:(x == ("__debug__" : Str)) = false:=by decide)
    (hc:(x == ("__classdict__" : Str)) = false:=by decide) :
    SE G c n (.Name x pos) (wLoc i):=fun A o s H ls Q X hA hs h=>by
  refine xA2_2 (hs.frame.cell i x hi (by rw [hk];decide)) ?_;intro ca u h1 h2 h3
  refine onSome_k h fun v hv h=>?_
  have h:=bnd_of h
  refine xA1_1 (h3 v hv h.1) ?_;intro y hT1;subst hT1;intro he
  exact wpAny_Name (wpAny_loadName_free C.kind hk h1 h2 (xI1_1 H hs (he ▸ h.2)) hc) hd
noncomputable def wVal (v:V):WE:=fun zz Q zz H=>Q v H
theorem r_glob (GO:GlOk G) (C:CxOk G c) {x:Str} {pos:Pos} {v:Value} (hm:G.mg x = some v) (hk:c.env.kindOf x = some .globalImplicit:=by rfl) (hd:(x == ("__debug__" : Str)) = false:=by decide) :
    SE G c n (.Name x pos) (wVal (er v)):=fun A o s H ls Q X hA hs h =>
  PySem.Calls.Name_function_global C.kind hk (PySem.Calls.loadGlobal_global (by rw [C.glob];exact GO.g.keeps hs.base) hm (xI1_1 H hs h)) hd
theorem r_blt (GO:GlOk G) (C:CxOk G c) {x:Str} {pos:Pos} {v:Value} (hm:G.mg x = none) (hb:bootBuiltins x = some v) (hn:x ≠ "__name__" := by decide) (hk:c.env.kindOf x = some .globalImplicit:=by rfl) (hd:(x == ("__debug__" : Str)) = false:=by decide) :
    SE G c n (.Name x pos) (wVal (er v)):=fun A o s H ls Q X hA hs h =>
  PySem.Calls.Name_function_global C.kind hk (PySem.Calls.loadGlobal_builtin (by rw [C.glob];exact GO.g.keeps hs.base) hm (by rw [C.blt];exact GO.b.keeps hs.base) ((GO.boot x hn).trans hb) (xI1_1 H hs h)) hd
noncomputable abbrev W2:=V -> V -> WV
noncomputable def S2 (G:Gl) (c:Cx) (n:Nat) (f:Value -> Value -> Sem Value) (w:W2):Prop :=
  ∀ A o s H ls Q X x y,AOk n c A -> St G c o H ls s -> w (er x) (er y) Q X H -> wpAny (model G.prog G.w) A (f x y) (RV G c o ls Q) (PX G c o ls X) s
noncomputable def wBin (f:W2) (a b:WE):WE:=fun ls Q X H=>a ls (fun x H1=>b ls (fun y H2=>f x y Q X H2) X H1) X H
theorem S2.go {f:Value -> Value -> Sem Value} {w:W2} (ha:S2 G c n f w) {A:Around} {o:Org} {s:Shared} {H:MH} {ls:List V} {X:XP} {E:Value -> Shared -> Prop} {Q:QV} {x y:Value} (hA:AOk n c A) (hs:St G c o H ls s) (h:w (er x) (er y) Q X H) {R:Value -> Shared -> Prop} (k:∀ v s1 H1,St G c o H1 ls s1 -> Q (er v) H1 -> R v s1) (kx:∀ e s1,PX G c o ls X e s1 -> E e s1):wpAny (model G.prog G.w) A (f x y) R E s :=
  wpAny_mono (ha A o s H ls Q X x y hA hs h) (fun v s1 h=>h.elim fun H1 h=>k v s1 H1 h.1 h.2) kx
theorem r_bin {op:Operator} {f:W2} {l r:Expr} {pos:Pos} {a b:WE} (hf:S2 G c n (binaryOp op) f) (ha:SE G c n l a) (hb:SE G c n r b):SE G c n (.BinOp l op r pos) (wBin f a b):=fun A o s H ls Q X hA hs h =>
  wpAny_BinOp (ha.go hA hs h (fun x s1 H1 hs1 h1=>hb.go hA hs1 h1 (fun y s2 H2 hs2 h2=>hf A o s2 H2 ls Q X x y hA hs2 h2) fun zz zz e=>e) fun zz zz e=>e)
theorem r_cmp1 {op:CmpOp} {f:W2} {l r:Expr} {pos:Pos} {a b:WE} (hf:S2 G c n (compareOp op) f) (ha:SE G c n l a) (hb:SE G c n r b) (hm:behindInMarks op r = false:=by with_unfolding_all rfl):SE G c n (.Compare l [op] [r] pos) (wBin f a b):=fun A o s H ls Q X hA hs h =>
  wpAny_Compare1 (ha.go hA hs h (fun x s1 H1 hs1 h1=>hb.go hA hs1 h1 (fun y s2 H2 hs2 h2=>hf A o s2 H2 ls Q X x y hA hs2 h2) fun zz zz e=>e) fun zz zz e=>e) hm
noncomputable def truB (v:V) (Q:QB) (H:MH):Prop:=onV v (Q false H) (fun b=>Q b H) (fun i=>(i ≠ 0 -> Q true H) /\ (¬ i ≠ 0 -> Q false H)) (fun zz=>False) fun zz=>False
theorem truthy_ok {A:Around} {o:Org} {s:Shared} {H:MH} {ls:List V} {v:Value} {Q:QB} {E:Value -> Shared -> Prop} (hs:St G c o H ls s) (h:truB (er v) Q H):wpAny (model G.prog G.w) A (truthy v) (RB G c o ls Q) E s :=
  onV_k h (fun e h=>e ▸ truthy_none (xI1_1 H hs h)) (fun zz e h=>e ▸ wpAny_truthy_bool (xI1_1 H hs h)) (fun i t e h=>e ▸ truthy_int ⟨H,hs,by
    by_cases q:i = 0
    · rw [show (i != 0) = false by simp [q]];exact h.2 (fun r=>r q)
    · rw [show (i != 0) = true by simp [q]];exact h.1 q⟩) (fun zz zz zz h=>h.elim) fun zz zz h=>h.elim
noncomputable def tVal (a:WE):WT:=fun ls Q X H=>a ls (fun v H'=>truB v Q H') X H
theorem t_val {e:Expr} {a:WE} (ha:SE G c n e a) (he:∀ env whole,isTrue e env whole = (do let v <- whole;standAt e.pos;holding [v] (truthy v)):=by intro _ _;rfl):ST G c n e (tVal a):=fun A o s H ls Q X hA hs h =>
  wpAny_isTrue_value (ha.go hA hs h (fun x s1 H1 hs1 h1=>truthy_ok hs1 h1) fun zz zz e=>e) (he _ _)
noncomputable def tBin (f:W2) (a b:WE):WT:=fun ls Q X H=>a ls (fun x H1=>b ls (fun y H2=>f x y (fun v H3=>truB v Q H3) X H2) X H1) X H
theorem t_cmp1 {op:CmpOp} {f:W2} {l r:Expr} {pos:Pos} {a b:WE} (hf:S2 G c n (compareOp op) f) (ha:SE G c n l a) (hb:SE G c n r b) (hm:behindInMarks op r = false:=by with_unfolding_all rfl):ST G c n (.Compare l [op] [r] pos) (tBin f a b):=fun A o s H ls Q X hA hs h =>
  wpAny_isTrue_Compare1 (ha.go hA hs h (fun x s1 H1 hs1 h1=>hb.go hA hs1 h1 (fun y s2 H2 hs2 h2=>hf.go hA hs2 h2 (fun v s3 H3 hs3 h3=>truthy_ok hs3 h3) fun zz zz e=>e) fun zz zz e=>e) fun zz zz e=>e) hm
noncomputable def tNot (a:WT):WT:=fun ls Q X H=>a ls (fun b H'=>Q (!b) H') X H
theorem t_not {e:Expr} {pos:Pos} {a:WT} (ha:ST G c n e a):ST G c n (.UnaryOp .Not e pos) (tNot a):=fun A o s H ls Q X hA hs h =>
  wpAny_isTrue_Not (ha A o s H ls _ X hA hs h)
noncomputable def tTrue:WT:=fun zz Q zz H=>Q true H
noncomputable def tFalse:WT:=fun zz Q zz H=>Q false H
noncomputable def tAnd (a b:WT):WT:=fun ls Q X H=>a ls (fun x H'=>br x (b ls Q X H') (Q false H')) X H
noncomputable def tOr (a b:WT):WT:=fun ls Q X H=>a ls (fun x H'=>br x (Q true H') (b ls Q X H')) X H
theorem t_and0:STs G c n .And [] tTrue:=fun A o s H ls Q X hA hs h=>wpAny_allTrue_And_nil (xI1_1 H hs h)
theorem t_or0:STs G c n .Or [] tFalse:=fun A o s H ls Q X hA hs h=>wpAny_allTrue_Or_nil (xI1_1 H hs h)
theorem t_and1 {e:Expr} {es:List Expr} {a b:WT} (ha:ST G c n e a) (hb:STs G c n .And es b):STs G c n .And (e :: es) (tAnd a b):=fun A o s H ls Q X hA hs h =>
  wpAny_allTrue_And_cons (ha.go hA hs h (fun x s1 H1 hs1 h1=>by
    cases x
    · exact (xI1_1 H1 hs1 h1)
    · exact hb A o s1 H1 ls Q X hA hs1 (h1)) fun zz zz e=>e)
theorem t_or1 {e:Expr} {es:List Expr} {a b:WT} (ha:ST G c n e a) (hb:STs G c n .Or es b):STs G c n .Or (e :: es) (tOr a b):=fun A o s H ls Q X hA hs h =>
  wpAny_allTrue_Or_cons (ha.go hA hs h (fun x s1 H1 hs1 h1=>by
    cases x
    · exact hb A o s1 H1 ls Q X hA hs1 (h1)
    · exact (xI1_1 H1 hs1 h1)) fun zz zz e=>e)
theorem t_bool {op:BoolOp} {es:List Expr} {pos:Pos} {a:WT} (ha:STs G c n op es a):ST G c n (.BoolOp op es pos) a:=fun A o s H ls Q X hA hs h=>wpAny_isTrue_BoolOp (ha A o s H ls Q X hA hs h)
noncomputable def wIf (t:WT) (a b:WE):WE:=fun ls Q X H=>t ls (fun x H'=>br x (a ls Q X H') (b ls Q X H')) X H
theorem r_ifexp {t a b:Expr} {pos:Pos} {wt:WT} {wa wb:WE} (ht:ST G c n t wt) (ha:SE G c n a wa) (hb:SE G c n b wb):SE G c n (.IfExp t a b pos) (wIf wt wa wb):=fun A o s H ls Q X hA hs h =>
  wpAny_IfExp (ht.go hA hs h (fun x s1 H1 hs1 h1=>by
    cases x
    · exact hb A o s1 H1 ls Q X hA hs1 (h1)
    · exact ha A o s1 H1 ls Q X hA hs1 (h1)) fun zz zz e=>e)
noncomputable def S1 (G:Gl) (c:Cx) (n:Nat) (f:Value -> Sem Value) (w:V -> WV):Prop :=
  ∀ A o s H ls Q X x,AOk n c A -> St G c o H ls s -> w (er x) Q X H -> wpAny (model G.prog G.w) A (f x) (RV G c o ls Q) (PX G c o ls X) s
theorem S1.go {f:Value -> Sem Value} {w:V -> WV} (ha:S1 G c n f w) {A:Around} {o:Org} {s:Shared} {H:MH} {ls:List V} {X:XP} {E:Value -> Shared -> Prop} {Q:QV} {x:Value} (hA:AOk n c A) (hs:St G c o H ls s) (h:w (er x) Q X H) {R:Value -> Shared -> Prop} (k:∀ v s1 H1,St G c o H1 ls s1 -> Q (er v) H1 -> R v s1) (kx:∀ e s1,PX G c o ls X e s1 -> E e s1):wpAny (model G.prog G.w) A (f x) R E s :=
  wpAny_mono (ha A o s H ls Q X x hA hs h) (fun v s1 h=>h.elim fun H1 h=>k v s1 H1 h.1 h.2) kx
noncomputable def wUn (f:V -> WV) (a:WE):WE:=fun ls Q X H=>a ls (fun x H1=>f x Q X H1) X H
theorem r_un {op:UnaryOp} {f:V -> WV} {l:Expr} {pos:Pos} {a:WE} (hf:S1 G c n (unaryOp op) f) (ha:SE G c n l a):SE G c n (.UnaryOp op l pos) (wUn f a):=fun A o s H ls Q X hA hs h =>
  wpAny_UnaryOp (ha.go hA hs h (fun x s1 H1 hs1 h1=>hf A o s1 H1 ls Q X x hA hs1 h1) fun zz zz e=>e)
noncomputable def sSeq (a b:WS):WS:=fun ls Qn Qr X H=>a ls (fun ls' H'=>b ls' Qn Qr X H') Qr X H
noncomputable def sSkip:WS:=fun ls Qn zz zz H=>Qn ls H
theorem b_nil:SB G c n [] sSkip:=fun A o s H ls Qn Qr X hA hs h=>wpAny_execs_nil (xI2_1 ls H hs h)
theorem b_cons {st:Stmt} {b:List Stmt} {wa wb:WS} (ha:SS G c n st wa) (hb:SB G c n b wb):SB G c n (st :: b) (sSeq wa wb):=fun A o s H ls Qn Qr X hA hs h =>
  wpAny_execs_cons (wpAny_mono (ha A o s H ls _ Qr X hA hs h) (fun f s1 h1=>by
    cases f with
    | next => obtain ⟨ls1,H1,hs1,h1⟩ := h1;exact hb A o s1 H1 ls1 Qn Qr X hA hs1 h1
    | ret v => exact h1
    | brk => exact h1.elim
    | cont => exact h1.elim) fun zz zz e => e)
theorem b_one {st:Stmt} {wa:WS} (ha:SS G c n st wa):SB G c n [st] wa:=fun A o s H ls Qn Qr X hA hs h =>
  wpAny_execs_cons (wpAny_mono (ha A o s H ls Qn Qr X hA hs h) (fun f s1 h1=>by
    cases f with
    | next => exact wpAny_execs_nil h1
    | ret v => exact h1
    | brk => exact h1.elim
    | cont => exact h1.elim) fun zz zz e => e)
noncomputable def sIf (t:WT) (a b:WS):WS:=fun ls Qn Qr X H=>t ls (fun x H'=>br x (a ls Qn Qr X H') (b ls Qn Qr X H')) X H
theorem s_if {t:Expr} {a b:List Stmt} {pos:Pos} {wt:WT} {wa wb:WS} (ht:ST G c n t wt) (ha:SB G c n a wa) (hb:SB G c n b wb):SS G c n (.If t a b pos) (sIf wt wa wb):=fun A o s H ls Qn Qr X hA hs h =>
  wpAny_If (ht.go hA hs h (fun x s1 H1 hs1 h1=>by
    cases x
    · exact hb A o s1 H1 ls Qn Qr X hA hs1 (h1)
    · exact ha A o s1 H1 ls Qn Qr X hA hs1 (h1)) fun zz zz e=>⟨ls,e⟩)
noncomputable def sRet (e:WE):WS:=fun ls zz Qr X H=>e ls Qr X H
theorem s_ret {e:Expr} {pos:Pos} {w:WE} (h:SE G c n e w):SS G c n (.Return (some e) pos) (sRet w):=fun A o s H ls Qn Qr X hA hs h' =>
  wpAny_Return_some (h.go hA hs h' (fun v s1 H1 hs1 h1=>(xI2_1 ls H1 hs1 h1)) fun zz zz e=>⟨ls,e⟩)
noncomputable def sRet0:WS:=fun zz zz Qr zz H=>Qr .none H
theorem s_ret0 {pos:Pos}:SS G c n (.Return none pos) sRet0:=fun A o s H ls Qn Qr X hA hs h=>wpAny_Return_none (xI2_1 ls H hs h)
theorem storeLocal_ok (C:CxOk G c) {A:Around} {o:Org} {s:Shared} {H:MH} {ls:List V} {E:Value -> Shared -> Prop} {i:Nat} {x:Str} {v:Value} (hs:St G c o H ls s) (hi:c.names[i]? = some x) (hk:c.env.kindOf x = some .local) :
    wpAny (model G.prog G.w) A (storeName c.env x v) (fun zz s'=>St G c o H (ls.set i (er v)) s') E s:=by
  refine xA1_1 hs.frame.loc ?_;intro m hn hl
  refine wpAny_storeName_local hk hn (fun h' hn' hsb=>?_) (by rw [C.kind];rfl)
  refine xA3_3 (id hn') ?_;intro ol es ep h1 h2 h3 h4
  refine xA3_2 (id hn) ?_;intro ol0 es0 ep0 g1 g2 _
  refine hs.ownChange (s':={ s with heap:=h',toks:=s.toks + 1 }) C C.loc hsb h1 (fun vs q=>by rw [h2] at q;cases q) (fun ob₀ e vs q=>by rw [g1] at e;cases e;rw [g2] at q;cases q) ⟨(xI1_1 _ hn' (fun j y v' hj hy hv hne=>?_)),fun j y hj hy=>?_⟩ rfl rfl
  · by_cases q:y = x
    · subst q
      have:j = i:=by
        have hlt:=(List.getElem?_eq_some_iff.mp hj).1
        exact (List.getElem?_inj hlt C.nodup).mp (hj.trans hi.symm)
      subst this
      have:v' = er v:=by
        rw [List.getElem?_set] at hv
        split at hv
        · split at hv <;> simp_all
        · simp_all
      exact (xI1_1 v (if_pos rfl) this.symm)
    · have:j ≠ i:=fun q2=>q (by rw [q2,hi] at hj;exact (Option.some.inj hj).symm)
      rw [List.getElem?_set_ne (Ne.symm this)] at hv
      refine xA1_1 (hl j y v' hj hy hv hne) ?_;intro u hu he
      exact (xI1_1 u ((if_neg q).trans hu) he)
  · refine xA2_2 (hs.frame.cell j y hj hy) ?_;intro ca u h1 h2 h3
    have hne:ca ≠ c.env.locals:=fun q=>by
      refine xA1_1 h2 ?_;(try clear h2);intro oc hoc hdc
      rw [q,g1] at hoc;cases hoc;rw [g2] at hdc;cases hdc
    refine (xI2_2 ca u h1 (h2.sameBut hsb hne) (fun v' hv hne'=>h3 v' ?_ hne'))
    have:j ≠ i:=fun q2=>hy (by rw [q2,hi] at hj;cases hj;exact hk)
    rwa [List.getElem?_set_ne (Ne.symm this)] at hv
theorem storeCell_ok (C:CxOk G c) {A:Around} {o:Org} {s:Shared} {H:MH} {ls:List V} {E:Value -> Shared -> Prop} {i:Nat} {x:Str} {v:Value} (hs:St G c o H ls s) (hi:c.names[i]? = some x) (hk:c.env.kindOf x = some .cell) (hx:c.cst x = true) :
    wpAny (model G.prog G.w) A (storeName c.env x v) (fun zz s'=>St G c o H (ls.set i (er v)) s') E s:=by
  refine xA2_2 (hs.frame.cell i x hi (by rw [hk];decide)) ?_;intro ca u h1 h2 h3
  refine xA0_2 (C.cells x ca hx h1) ?_;intro k1 k2 k3
  refine wpAny_storeName_cell C.kind hk h1 h2 fun h' hn' hsb=>?_
  refine xA1_1 (id hn') ?_;intro oc g1 g2
  refine xA1_1 (id h2) ?_;intro oc0 f1 f2
  refine xA1_1 hs.frame.loc ?_;intro m hn hl
  refine hs.ownChange (s':={ s with heap:=h' }) C k1 hsb g1 (fun vs q=>by rw [g2] at q;cases q) (fun ob₀ e vs q=>by rw [f1] at e;cases e;rw [f2] at q;cases q) ⟨(xI1_1 m (hn.sameBut hsb (Ne.symm k2)) (fun j y v' hj hy hv hne=>?_)),fun j y hj hy=>?_⟩ rfl rfl
  · have:j ≠ i:=fun q2=>by rw [q2,hi] at hj;cases hj;rw [hk] at hy;cases hy
    rw [List.getElem?_set_ne (Ne.symm this)] at hv
    exact hl j y v' hj hy hv hne
  · refine xA2_2 (hs.frame.cell j y hj hy) ?_;intro cb w e1 e2 e3
    by_cases q:cb = ca
    · have hxy:=C.apart y x ca (q ▸ e1) h1
      subst hxy
      have:j = i:=by
        have hlt:=(List.getElem?_eq_some_iff.mp hj).1
        exact (List.getElem?_inj hlt C.nodup).mp (hj.trans hi.symm)
      subst this
      refine (xI2_2 ca (some v) h1 hn' (fun v' hv hne=>(xI1_1 v rfl ?_)))
      rw [List.getElem?_set] at hv
      split at hv
      · split at hv <;> simp_all
      · simp_all
    · refine (xI2_2 cb w e1 (e2.sameBut hsb q) (fun v' hv hne=>e3 v' ?_ hne))
      have:j ≠ i:=fun q2=>q (by rw [q2,hi] at hj;cases hj;rw [h1] at e1;exact (Option.some.inj e1).symm)
      rwa [List.getElem?_set_ne (Ne.symm this)] at hv
noncomputable def aLoc (i:Nat):V -> WS:=fun v ls Qn zz zz H=>Qn (ls.set i v) H
theorem a_loc (C:CxOk G c) (i:Nat) {x:Str} {pos:Pos} (hi:c.names[i]? = some x:=by rfl) (hk:c.env.kindOf x = some .local:=by rfl):SA G c n (.Name x pos) (aLoc i):=fun A o s H ls Qn Qr X v hA hs h=>by
  refine wpAny_assign_Name (wpAny_mono (storeLocal_ok C hs hi hk) (fun zz s' h'=>(xI2_1 _ H h' h)) fun zz zz e=>e)
theorem a_cell (C:CxOk G c) (i:Nat) {x:Str} {pos:Pos} (hi:c.names[i]? = some x:=by rfl) (hk:c.env.kindOf x = some .cell:=by rfl) (hx:c.cst x = true:=by rfl):SA G c n (.Name x pos) (aLoc i):=fun A o s H ls Qn Qr X v hA hs h=>by
  refine wpAny_assign_Name (wpAny_mono (storeCell_ok C hs hi hk hx) (fun zz s' h'=>(xI2_1 _ H h' h)) fun zz zz e=>e)
noncomputable def sAsg (i:Nat) (e:WE):WS:=fun ls Qn zz X H=>e ls (fun v H'=>Qn (ls.set i v) H') X H
theorem s_asg (C:CxOk G c) (i:Nat) {x:Str} {px pos:Pos} {e:Expr} {w:WE} (he:SE G c n e w) (hi:c.names[i]? = some x:=by rfl) (hk:c.env.kindOf x = some .local:=by rfl)
    (hsw:∀ env,swapsWith e (some (.Name x px)) pos.line env = pure false:=by intro _;rfl):SS G c n (.Assign [.Name x px] e pos) (sAsg i w):=fun A o s H ls Qn Qr X hA hs h =>
  wpAny_Assign_Name (he.go hA hs h (fun v s1 H1 hs1 h1=>wpAny_mono (storeLocal_ok C hs1 hi hk) (fun zz s' h'=>(xI2_1 _ H1 h' h1)) fun zz zz e=>e) fun zz zz e=>⟨ls,e⟩) (hsw _)
theorem s_asgC (C:CxOk G c) (i:Nat) {x:Str} {px pos:Pos} {e:Expr} {w:WE} (he:SE G c n e w) (hi:c.names[i]? = some x:=by rfl) (hk:c.env.kindOf x = some .cell:=by rfl) (hx:c.cst x = true:=by rfl)
    (hsw:∀ env,swapsWith e (some (.Name x px)) pos.line env = pure false:=by intro _;rfl):SS G c n (.Assign [.Name x px] e pos) (sAsg i w):=fun A o s H ls Qn Qr X hA hs h =>
  wpAny_Assign_Name (he.go hA hs h (fun v s1 H1 hs1 h1=>wpAny_mono (storeCell_ok C hs1 hi hk hx) (fun zz s' h'=>(xI2_1 _ H1 h' h1)) fun zz zz e=>e) fun zz zz e=>⟨ls,e⟩) (hsw _)
noncomputable def sAug (f:W2) (i:Nat) (e:WE):WS:=fun ls Qn zz X H=>wLoc i ls (fun x H1=>e ls (fun y H2=>f x y (fun v H3=>Qn (ls.set i v) H3) X H2) X H1) X H
theorem s_aug (C:CxOk G c) (i:Nat) {op:Operator} {f:W2} {x:Str} {px pos:Pos} {e:Expr} {w:WE} (hf:S2 G c n (inplaceOp op) f) (he:SE G c n e w) (hi:c.names[i]? = some x:=by rfl) (hk:c.env.kindOf x = some .local:=by rfl):SS G c n (.AugAssign (.Name x px) op e pos) (sAug f i w):=fun A o s H ls Qn Qr X hA hs h=>by
  refine xA1_1 hs.frame.loc ?_;intro m hn hl
  refine onSome_k h fun v hv h=>?_
  have h:=bnd_of h
  refine xA1_1 (hl i x v hi hk hv h.1) ?_;intro u hu heq
  refine wpAny_AugAssign_Name (wpAny_loadName_local C.kind hk hn hu ?_)
  refine he.go hA hs h.2 (fun y s2 H2 hs2 h2=>?_) fun zz zz e=>⟨ls,e⟩
  refine hf.go hA hs2 (heq ▸ h2) (fun r s3 H3 hs3 h3=>?_) fun zz zz e=>⟨ls,e⟩
  exact wpAny_mono (storeLocal_ok C hs3 hi hk) (fun zz s' h'=>(xI2_1 _ H3 h' h3)) fun zz zz e=>e
noncomputable def sExpr (e:WE):WS:=fun ls Qn zz X H=>e ls (fun v H'=>v = .none /\ Qn ls H') X H
theorem s_expr {e:Expr} {pos:Pos} {w:WE} (he:SE G c n e w) (hi:interactive c.env = false) (hsw:∀ env,swapsWith e none pos.line env = pure false:=by intro _;rfl):SS G c n (.Expr e pos) (sExpr w):=fun A o s H ls Qn Qr X hA hs h =>
  wpAny_Expr (he.go hA hs h (fun v s1 H1 hs1 hqq=>(fun hv h1=>by
    rw [er_none hv];exact (xI2_1 ls H1 hs1 h1)) hqq.1 hqq.2) fun zz zz e=>⟨ls,e⟩) hi (hsw _)
end
section
variable {G:Gl} {c:Cx} {o:Org} {H:MH} {ls:List V} {s s':Shared}
theorem St.newOf (x:St G c o H ls s) {a:Addr} {h':Heap} (e:s.heap.get? a = none) (hP:∀ ps,h'.get? G.P = some (tabObj ps) -> s.heap.get? G.P = some (tabObj ps)):New G c o H h' a:=by
  refine xA0_5 (x.fresh e) ?_;intro f1 f2 f3 f4 f5 f6
  refine ⟨f2,f1,f3,f4,f5,fun y q=>f6 a y q rfl,fun y q=>?_,fun ps hp p hm q=>?_⟩
  · obtain ⟨_,ob,h1⟩:=x.free y a q;rw [e] at h1;cases h1
  · refine xA1_2 x.tab ?_;intro ps' h1 h2 h3
    have h4:=hP ps hp
    rw [h1] at h4;cases h4
    refine xA4_2 (h3 p hm _ q) ?_;intro ca oc vs t e1 e2 _
    cases e1
    rw [e] at e2;cases e2
theorem St.fly (C:CxOk G c) (x:St G c o H ls s) (l:List Addr) (hnew:∀ b ∈ l,New G c o H s.heap b) (hk:∀ b y,s.heap.get? b = some y -> b ∉ l -> b ∉ c.frames -> s'.heap.get? b = some y)
    (hf:∀ b y,s.heap.get? b = some y -> b ∈ c.frames -> ∃ sl,s'.heap.get? b = some { y with slots:=sl }) (hg:s'.gens = s.gens) (hos:s'.os = s.os):St G c o H ls s':=by
  have up:∀ b y,s.heap.get? b = some y -> b ∉ l -> ∃ sl,s'.heap.get? b = some { y with slots:=sl }:=fun b y e hn=>by
    by_cases q:b ∈ c.frames
    · exact hf b y e q
    · exact ⟨y.slots,hk b y e hn q⟩
  have nl:∀ {b},b ∈ c.own -> b ∉ l:=fun h q=>(hnew _ q).own h
  have fields:∀ b y vs,s.heap.get? b = some y -> y.data = .fields vs -> b ∉ c.frames:=fun b y vs e hd q=>by
    refine xA0_1 (funFrames_mem x.fr q) ?_;intro _ hT1;refine xA1_1 hT1 ?_;(try clear hT1);intro o' h1 h2
    rw [e] at h1;cases h1
    exact h2 vs hd
  have nh₀:∀ b y,G.h₀.get? b = some y -> b ∉ l /\ b ∉ c.frames:=fun b y e=>⟨fun q=>(by rw [(hnew b q).base] at e;cases e),fun q=>(by rw [(funFrames_mem x.fr q).1] at e;cases e)⟩
  refine ⟨hg.trans x.gens,hos.trans x.os,fun b y e=>hk b y (x.base b y e) (nh₀ b y e).1 (nh₀ b y e).2,fun b mb e=>?_,fun b hb=>?_,fun y ca e=>?_,?_,?_,?_,?_⟩
  · refine xA0_4 (x.own b mb e) ?_;intro h1 h2 h3 h4 hT1;refine xA1_1 hT1 ?_;(try clear hT1);intro ob' h5 h6
    exact (xI0_4 h1 h2 h3 h4 (xI1_1 ob' (hk b _ h5 (fun q=>by rw [(hnew b q).H] at e;cases e) h4) h6))
  · refine xA0_1 (x.ownEx b hb) ?_;intro h1 hT1;refine xA1_0 hT1 ?_;(try clear hT1);intro ob' h2
    refine xA1_0 (up b ob' h2 (nl hb)) ?_;intro sl h3
    exact ⟨h1,⟨ _,h3⟩⟩
  · refine xA0_1 (x.free y ca e) ?_;intro h1 hT1;refine xA1_0 hT1 ?_;(try clear hT1);intro oc h2
    refine xA1_0 (up ca oc h2 (fun q=>(hnew _ q).cell y e)) ?_;intro sl h3
    exact ⟨h1,⟨ _,h3⟩⟩
  · refine xA1_2 x.tab ?_;intro ps h1 h2 h3
    refine (xI1_2 ps (hk _ _ h1 (fun q=>(hnew _ q).P rfl) (fields _ _ _ h1 rfl)) h2 (fun p hp cv hc=>?_))
    refine xA4_3 (h3 p hp cv hc) ?_;intro ca oc vs t e1 e2 e3 e4
    exact (xI4_3 ca oc vs t e1 (hk _ _ e2 (fun q=>(hnew _ q).tab ps h1 p hp (by rw [hc,e1])) (fields _ _ _ e2 e3)) e3 e4)
  · refine xA1_1 x.frame.loc ?_;intro m hT1 hl;refine xA3_3 hT1 ?_;(try clear hT1);intro ol es ep n1 n2 n3 n4
    refine xA1_0 (up _ _ n1 (nl C.loc)) ?_;intro sl h3
    refine ⟨(xI1_1 m (xI3_3 _ es ep h3 n2 n3 n4) hl),fun i y hi hy=>?_⟩
    refine xA2_2 (x.frame.cell i y hi hy) ?_;intro ca u h1 hT1 h4;refine xA1_1 hT1 ?_;(try clear hT1);intro oc h2 h2'
    refine xA1_0 (up ca oc h2 (fun q=>(hnew _ q).cell y h1)) ?_;intro sl h5
    exact (xI2_2 ca u h1 (xI1_1 _ h5 h2') h4)
  · refine funFrames_of x.fr fun b hb y e hne=>?_
    refine xA1_0 (hf b y e hb) ?_;intro sl h1
    exact (xI1_1 _ h1 hne)
  · refine ⟨fun b y h1 h2 h3 h4 h5=>hk b y (x.tr.keep b y h1 h2 h3 h4 h5) (fun q=>(hnew _ q).org _ h1) h5,fun b y h1 h2 h3=>?_,x.tr.claim,fun b y e=>?_⟩
    · refine xA1_0 (x.tr.frm b y h1 h2 h3) ?_;intro sl e
      refine xA1_0 (hf b _ e h2) ?_;intro sl' e'
      exact ⟨sl',e'⟩
    · refine xA1_0 (x.tr.ex b y e) ?_;intro z hz
      refine xA1_0 (up b z hz (fun q=>(hnew _ q).org _ e)) ?_;intro sl h1
      exact ⟨_,h1⟩
theorem St.hidden (C:CxOk G c) (x:St G c o H ls s) {a:Addr} (hnew:New G c o H s.heap a) (hs:∀ b y,b ≠ a -> s.heap.get? b = some y -> s'.heap.get? b = some y) (hg:s'.gens = s.gens) (hos:s'.os = s.os):St G c o H ls s' :=
  x.fly C [a] (fun b hb=>by rw [List.mem_singleton.mp hb];exact hnew) (fun b y e hn zz=>hs b y (fun q=>hn (by rw [q];exact .head _)) e)
    (fun b y e hb=>⟨y.slots,hs b y (fun q=>hnew.frm (q ▸ hb)) e⟩) hg hos
theorem New.mono {H':MH} {h h':Heap} {a:Addr} (x:New G c o H h a) (hH:H' a = none) (hP:∀ ps,h'.get? G.P = some (tabObj ps) -> h.get? G.P = some (tabObj ps)):New G c o H' h' a :=
  ⟨x.base,hH,x.P,x.own,x.frm,x.org,x.cell,fun ps hp=>x.tab ps (hP ps hp)⟩
noncomputable def here (H:MH) (s:Shared):Org:=⟨H,s.heap⟩
theorem St.rebase (x:St G c o H ls s):St G c (here H s) H ls s :=
  { x with tr:=⟨fun b y e zz zz zz zz=>e,fun b y e zz zz=>⟨y.slots,e⟩,fun b y zz e=>e,fun b y e=>⟨y,e⟩⟩ }
theorem St.trans {H₁:MH} {ls₁:List V} {s₁:Shared} (x:St G c o H₁ ls₁ s₁) (y:St G c (here H₁ s₁) H ls s):St G c o H ls s :=
  { y with tr:=⟨fun b z h1 h2 h3 h4 h5=>y.tr.keep b z (x.tr.keep b z h1 h2 h3 h4 h5) (x.tr.claim b z h1 h2) h3 h4 h5,
      fun b z h1 h2 h3=>by
        refine xA1_0 (x.tr.frm b z h1 h2 h3) ?_;intro sl e
        refine xA1_0 (y.tr.frm b _ e h2 h3) ?_;intro sl' e'
        exact ⟨sl',e'⟩,
      fun b z h1 h2=>by
        refine xA1_0 (x.tr.ex b z h1) ?_;intro u hu
        exact y.tr.claim b u hu (x.tr.claim b z h1 h2),
      fun b z h1=>by
        refine xA1_0 (x.tr.ex b z h1) ?_;intro u hu
        exact y.tr.ex b u hu⟩ }
theorem New.trans {H₁:MH} {ls₁:List V} {s₁:Shared} {h:Heap} {a:Addr} (x:St G c o H₁ ls₁ s₁) (y:New G c (here H₁ s₁) H h a):New G c o H h a :=
  ⟨y.base,y.H,y.P,y.own,y.frm,fun z q=>by
    refine xA1_0 (x.tr.ex a z q) ?_;intro u hu
    exact y.org u hu,y.cell,y.tab⟩
theorem Flight.trans {H₁:MH} {ls₁:List V} {s₁:Shared} {h:Heap} {a C:Addr} (x:St G c o H₁ ls₁ s₁) (y:Flight G c (here H₁ s₁) H a C h):Flight G c o H a C h:=by
  refine xA3_5 y ?_;(try clear y);intro oe vs a0 h1 h2 h3 h4 h5 h6
  refine (xI3_5 oe vs a0 h1 h2 h3 h4 (New.trans x h5) (h6.imp id fun hF1=>xA3_3 hF1 fun T oT ts t1 t2 t3 t4=>(xI3_3 T oT ts t1 t2 (New.trans x t3) t4)))
end
section
variable {G:Gl} {c:Cx} {o:Org} {H:MH} {ls:List V} {s:Shared} {A:Around} {ea C:Addr} {E:Value -> Shared -> Prop} {outer:List Env}
noncomputable def FlightAt (G:Gl) (c:Cx) (o:Org) (H:MH) (ea C:Addr) (fl:Value) (h:Heap):Prop :=
  ∃ oe vs a0 T oT ts,h.get? ea = some oe /\ oe.cls = .ref C /\ oe.data = .fields vs /\ vs[0]? = some a0 /\ New G c o H h ea /\ vs[1]? = some (.ref T) /\ T ≠ ea /\ New G c o H h T /\ h.get? T = some oT /\ oT.data = .fields ts /\ ts[3]? = some fl
theorem FlightAt.none {h:Heap} (x:FlightAt G c o H ea C .none h):Flight G c o H ea C h:=by
  refine xA6_10 x ?_;(try clear x);intro oe vs a0 T oT ts h1 h2 h3 h4 h5 h6 h7 h8 h9 h10 h11
  exact (xI3_5 oe vs a0 h1 h2 h3 h4 h5 (.inr (xI3_5 T oT ts h6 h7 h8 h9 h10 (.inl h11))))
theorem FlightAt.held {h:Heap} {L:Addr} (hL:c.env.frame = some L) (x:FlightAt G c o H ea C (rawInt L) h):Flight G c o H ea C h:=by
  refine xA6_10 x ?_;(try clear x);intro oe vs a0 T oT ts h1 h2 h3 h4 h5 h6 h7 h8 h9 h10 h11
  exact (xI3_5 oe vs a0 h1 h2 h3 h4 h5 (.inr (xI3_5 T oT ts h6 h7 h8 h9 h10 (.inr (xI1_1 L hL h11)))))
theorem flight_of (CO:CxOk G c) (x:St G c o H ls s) (l:List Addr) {h':Heap} {a0 fl:Value} (hea:ea ∈ l) (hl:∀ b ∈ l,New G c o H s.heap b) (hlf:∀ b ∈ l,∀ y,s.heap.get? b = some y -> ∃ vs,y.data = .fields vs)
    (k1:(hideAll s.heap (l ++ c.frames)).StaysIn h') (k2:h'.FunFrames (hideAll s.heap (l ++ c.frames)) c.stack) (k3:h'.TracedAtW (hideAll s.heap (l ++ c.frames)) ea (.ref C) a0 fl)
    (k4:∀ b y,s.heap.get? b = some y -> (∀ vs,y.data ≠ .fields vs) -> ∃ sl,h'.get? b = some { y with slots:=sl }) :
    St G c o H ls { s with heap:=h' } /\ FlightAt G c o H ea C fl h':=by
  have hk:∀ b y,s.heap.get? b = some y -> b ∉ l -> b ∉ c.frames -> h'.get? b = some y:=fun b y e h1 h2=>k1 b y (hideAll_get _ e (by
    intro q;rcases List.mem_append.mp q with q | q
    · exact h1 q
    · exact h2 q))
  have x':St G c o H ls { s with heap:=h' }:=x.fly (s':={ s with heap:=h' }) CO l hl hk (fun b y e hb=>by
    refine xA0_1 (funFrames_mem x.fr hb) ?_;intro _ hT1;refine xA1_1 hT1 ?_;(try clear hT1);intro o' h1 h2
    rw [e] at h1;cases h1
    exact k4 b y e h2) rfl rfl
  refine ⟨x',?_⟩
  have hP:∀ ps,h'.get? G.P = some (tabObj ps) -> s.heap.get? G.P = some (tabObj ps):=fun ps hp=>by
    refine xA1_1 x.tab ?_;intro ps' h1 _
    have h2:=hk _ _ h1 (fun q=>(hl _ q).P rfl) (fun q=>by
      refine xA0_1 (funFrames_mem x.fr q) ?_;intro _ hT1;refine xA1_1 hT1 ?_;(try clear hT1);intro o' g1 g2
      rw [h1] at g1;cases g1
      exact g2 _ rfl)
    rw [hp] at h2;cases h2;exact h1
  refine xA5_0 k3 ?_;(try clear k3);intro oe vs T oT ts hT1;refine xA0_8 hT1 ?_;(try clear hT1);intro h1 hT2 h3 h4 h5 h6 h7 h8 h9;refine xA0_1 hT2 ?_;(try clear hT2);intro h2 h2'
  have nT:New G c o H h' T:=by
    by_cases q:T ∈ l
    · exact (hl T q).mono (hl T q).H hP
    · refine x.newOf ?_ hP
      cases e:s.heap.get? T with
      | none => rfl
      | some y =>
        exfalso
        have nf:T ∉ c.frames:=fun q2=>by
          refine xA0_1 (funFrames_mem k2 q2) ?_;intro _ hT1;refine xA1_1 hT1 ?_;(try clear hT1);intro o' g1 g2
          rw [h7] at g1;cases g1
          exact g2 _ h8
        have:=hideAll_get (l ++ c.frames) e (by
          intro q3;rcases List.mem_append.mp q3 with q3 | q3
          · exact q q3
          · exact nf q3)
        rw [h5] at this;cases this
  exact (xI6_10 oe vs a0 T oT ts h1 h2 h3 h2' ((hl ea hea).mono (hl ea hea).H hP) h4 h6 nT h7 h8 h9)
theorem funFrames_hidden {h:Heap} {l:List Addr}:∀ {fs:List Env} {base:Heap},h.FunFrames base fs -> (∀ b ∈ fs.filterMap (·.frame),b ∈ l) -> h.FunFrames (hideAll h l) fs
  | [],_,_,_ => trivial
  | env :: r,_,⟨hk,⟨L,o,hf,hn,ho,hd⟩,hr⟩,k => ⟨hk,⟨L,o,hf,hideAll_none _ (k L (by simp [hf])),ho,hd⟩,funFrames_hidden hr fun b hb => k b (by
      rw [List.filterMap_cons,hf];exact .tail _ hb)⟩
theorem note_ok (CO:CxOk G c) (hA:A.frames = some c.stack) (hst:c.stack = c.env :: outer) {L:Addr} (hL:c.env.frame = some L) (x:St G c o H ls s) (y:Flight G c o H ea C s.heap) :
    wpAny (model G.prog G.w) A (noteFrame (.ref ea) c.env) (fun zz s'=>St G c o H ls s' /\ FlightAt G c o H ea C (rawInt L) s'.heap) E s:=by
  refine xA3_5 y ?_;(try clear y);intro oe vs a0 h1 h2 h3 h4 h5 h6
  rcases h6 with h6 | ⟨T,oT,ts,t1,t2,t3,t4,t5,t6⟩
  · unfold noteFrame
    simp only [hL]
    refine wpAny_bind (wpAny_field h1 h3 h6 ?_)
    rw [if_neg (by decide)]
    have fr':=funFrames_hidden (l:=[ea] ++ c.frames) x.fr fun b hb=>List.mem_append_right _ hb
    refine wpAny_entryW (base:=hideAll s.heap ([ea] ++ c.frames)) (by rw [hA,hst]) (hst ▸ fr') hL h1 (fun b y e=>of_hideAll _ e) (hideAll_none _ (by simp)) h3 (Array.getElem?_eq_some_iff.mp h6).1 h4 fun h' hN=>?_
    refine xA0_3 hN ?_;(try clear hN);intro k1 k2 k3 k4
    exact flight_of CO x [ea] (.head _) (fun b hb=>by rw [List.mem_singleton.mp hb];exact h5) (fun b hb y e=>by rw [List.mem_singleton.mp hb,h1] at e;cases e;exact ⟨_,h3⟩) k1 (hst ▸ k2) (h2 ▸ k3) k4
  · rcases t6 with t6 | ⟨L',t6,t7⟩
    · have fr':=funFrames_hidden (l:=[ea,T] ++ c.frames) x.fr fun b hb=>List.mem_append_right _ hb
      refine wpAny_noteFrame_onW (base:=hideAll s.heap ([ea,T] ++ c.frames)) (cls:=.ref C) (a0:=a0) (by rw [hA,hst]) (hst ▸ fr') hL (xI5_8 oe vs T oT ts h1 ⟨h2,h4⟩ h3 t1 (hideAll_none _ (by simp)) t2 t4 t5 t6) (fun b y e=>of_hideAll _ e) (hideAll_none _ (by simp)) fun h' hN=>?_
      refine xA0_3 hN ?_;(try clear hN);intro k1 k2 k3 k4
      exact flight_of CO x [ea,T] (.head _) (fun b hb=>by
          rcases List.mem_cons.mp hb with rfl | hb
          · exact h5
          · rw [List.mem_singleton.mp hb];exact t3) (fun b hb y e=>by
          rcases List.mem_cons.mp hb with rfl | hb
          · rw [h1] at e;cases e;exact ⟨_,h3⟩
          · rw [List.mem_singleton.mp hb,t4] at e;cases e;exact ⟨_,t5⟩) k1 (hst ▸ k2) k3 k4
    · have:L' = L:=by rw [hL] at t6;exact (Option.some.inj t6).symm
      subst this
      exact wpAny_noteFrame_againW (base:=hideAll s.heap [T]) (cls:=.ref C) (a0:=a0) hL (xI5_8 oe vs T oT ts h1 ⟨h2,h4⟩ h3 t1 (hideAll_none _ (by simp)) t2 t4 t5 t7) ⟨x,(xI6_10 oe vs a0 T oT ts h1 h2 h3 h4 h5 t1 t2 t3 t4 t5 t7)⟩
theorem leave_ok (CO:CxOk G c) (hA:A.frames = some c.stack) (hst:c.stack = c.env :: outer) {L:Addr} (hL:c.env.frame = some L) (x:St G c o H ls s) (y:Flight G c o H ea C s.heap) :
    wpAny (model G.prog G.w) A (leaving c.env (.ref ea)) (fun zz s'=>St G c o H ls s' /\ FlightAt G c o H ea C .none s'.heap) E s:=by
  refine xA3_5 y ?_;(try clear y);intro oe vs a0 h1 h2 h3 h4 h5 h6
  rcases h6 with h6 | ⟨T,oT,ts,t1,t2,t3,t4,t5,t6⟩
  · have fr':=funFrames_hidden (l:=[ea] ++ c.frames) x.fr fun b hb=>List.mem_append_right _ hb
    refine wpAny_leaving_firstW (base:=hideAll s.heap ([ea] ++ c.frames)) (by rw [hA,hst]) (hst ▸ fr') hL h1 (fun b y e=>of_hideAll _ e) (hideAll_none _ (by simp)) h3 h6 h4 fun h' hN=>?_
    refine xA0_3 hN ?_;(try clear hN);intro k1 k2 k3 k4
    exact flight_of CO x [ea] (.head _) (fun b hb=>by rw [List.mem_singleton.mp hb];exact h5) (fun b hb y e=>by rw [List.mem_singleton.mp hb,h1] at e;cases e;exact ⟨_,h3⟩) k1 (hst ▸ k2) (h2 ▸ k3) k4
  · have hlN:∀ b ∈ [ea,T],New G c o H s.heap b:=fun b hb=>by
      rcases List.mem_cons.mp hb with rfl | hb
      · exact h5
      · rw [List.mem_singleton.mp hb];exact t3
    have hlF:∀ b ∈ [ea,T],∀ y,s.heap.get? b = some y -> ∃ vs,y.data = .fields vs:=fun b hb y e=>by
      rcases List.mem_cons.mp hb with rfl | hb
      · rw [h1] at e;cases e;exact ⟨_,h3⟩
      · rw [List.mem_singleton.mp hb,t4] at e;cases e;exact ⟨_,t5⟩
    have fr':=funFrames_hidden (l:=[ea,T] ++ c.frames) x.fr fun b hb=>List.mem_append_right _ hb
    rcases t6 with t6 | ⟨L',t6,t7⟩
    · refine wpAny_leaving_nextW (base:=hideAll s.heap ([ea,T] ++ c.frames)) (cls:=.ref C) (a0:=a0) (by rw [hA,hst]) (hst ▸ fr') hL (xI5_8 oe vs T oT ts h1 ⟨h2,h4⟩ h3 t1 (hideAll_none _ (by simp)) t2 t4 t5 t6) (fun b y e=>of_hideAll _ e) (hideAll_none _ (by simp)) fun h' hN=>?_
      refine xA0_3 hN ?_;(try clear hN);intro k1 k2 k3 k4
      exact flight_of CO x [ea,T] (.head _) hlN hlF k1 (hst ▸ k2) k3 k4
    · have:L' = L:=by rw [hL] at t6;exact (Option.some.inj t6).symm
      subst this
      have ht:s.heap.TracedAtW (hideAll s.heap ([ea,T] ++ c.frames)) ea (.ref C) a0 (rawInt L'):=(xI5_8 oe vs T oT ts h1 ⟨h2,h4⟩ h3 t1 (hideAll_none _ (by simp)) t2 t4 t5 t7)
      unfold leaving
      refine wpAny_bind (wpAny_noteFrame_againW hL ht ?_)
      refine wpAny_setFlight_noneW (fun b y e=>of_hideAll _ e) fr' ht fun h' k1 k2 k3 k4=>?_
      exact flight_of CO x [ea,T] (.head _) hlN hlF k1 k2 k3 fun b y e hn=>⟨y.slots,k4 b y e hn⟩
theorem land_ok (CO:CxOk G c) {fl:Value} (x:St G c o H ls s) (y:FlightAt G c o H ea C fl s.heap) :
    wpAny (model G.prog G.w) A (setFlight (.ref ea) none) (fun zz s'=>St G c o H ls s' /\ FlightAt G c o H ea C .none s'.heap) E s:=by
  refine xA6_10 y ?_;(try clear y);intro oe vs a0 T oT ts h1 h2 h3 h4 h5 t1 t2 t3 t4 t5 t7
  have hlN:∀ b ∈ [ea,T],New G c o H s.heap b:=fun b hb=>by
    rcases List.mem_cons.mp hb with rfl | hb
    · exact h5
    · rw [List.mem_singleton.mp hb];exact t3
  have hlF:∀ b ∈ [ea,T],∀ y,s.heap.get? b = some y -> ∃ vs,y.data = .fields vs:=fun b hb y e=>by
    rcases List.mem_cons.mp hb with rfl | hb
    · rw [h1] at e;cases e;exact ⟨_,h3⟩
    · rw [List.mem_singleton.mp hb,t4] at e;cases e;exact ⟨_,t5⟩
  have fr':=funFrames_hidden (l:=[ea,T] ++ c.frames) x.fr fun b hb=>List.mem_append_right _ hb
  have ht:s.heap.TracedAtW (hideAll s.heap ([ea,T] ++ c.frames)) ea (.ref C) a0 fl:=(xI5_8 oe vs T oT ts h1 ⟨h2,h4⟩ h3 t1 (hideAll_none _ (by simp)) t2 t4 t5 t7)
  refine wpAny_setFlight_noneW (fun b y e=>of_hideAll _ e) fr' ht fun h' k1 k2 k3 k4=>?_
  exact flight_of CO x [ea,T] (.head _) hlN hlF k1 k2 k3 fun b y e hn=>⟨y.slots,k4 b y e hn⟩
theorem mark_ok (CO:CxOk G c) {fl:Value} {L:Addr} (hL:c.env.frame = some L) (x:St G c o H ls s) (y:FlightAt G c o H ea C fl s.heap) :
    wpAny (model G.prog G.w) A (setFlight (.ref ea) c.env.frame) (fun zz s'=>St G c o H ls s' /\ FlightAt G c o H ea C (rawInt L) s'.heap) E s:=by
  refine xA6_10 y ?_;(try clear y);intro oe vs a0 T oT ts h1 h2 h3 h4 h5 t1 t2 t3 t4 t5 t7
  have hsz3:3 < ts.size:=(Array.getElem?_eq_some_iff.mp t7).1
  rw [hL]
  unfold setFlight
  refine wpAny_bind (wpAny_field h1 h3 t1 ?_)
  rw [if_pos (show (Value.ref T != Value.none) = true from by simp)]
  refine wpAny_setField t4 t5 hsz3 ?_
  have other:∀ b,b ≠ T -> (s.heap.update T (Obj.mapFields (·.setIfInBounds 3 ((some L:Option Addr).elim Value.none fun f=>rawInt f)))).get? b = s.heap.get? b :=
    fun b hb=>Heap.get?_update_other _ _ (Ne.symm hb)
  have hP:∀ ps,(s.heap.update T (Obj.mapFields (·.setIfInBounds 3 ((some L:Option Addr).elim Value.none fun f=>rawInt f)))).get? G.P = some (tabObj ps) -> s.heap.get? G.P = some (tabObj ps):=fun ps hp=>by rwa [other _ (Ne.symm t3.P)] at hp
  refine ⟨x.hidden CO t3 (fun b y hb e=>(other b hb).trans e) rfl rfl,(xI6_10 oe vs a0 T _ _ ((other ea (Ne.symm t2)).trans h1) h2 h3 h4 (h5.mono h5.H hP) t1 t2 (t3.mono t3.H hP) (Heap.get?_update_self _ t4 (Obj.isFreed_of_fields (Obj.data_mapFields t5 _))) (Obj.data_mapFields t5 _) (by simp [hsz3]))⟩
theorem cameBack_ok (CO:CxOk G c) {L:Addr} (hL:c.env.frame = some L) {X:XP} {fl:Value} (hx:X C H) (x:St G c o H ls s) (y:FlightAt G c o H ea C fl s.heap) :
    cameBackBy (model G.prog G.w) A c.env (PX G c o ls X) (.ref ea) s:=by
  have y':=y
  refine xA6_0 y' ?_;(try clear y');intro oe vs a0 T oT ts hT1;refine xA0_6 hT1 ?_;(try clear hT1);intro h1 h2 h3 h4 h5 t1 _
  unfold cameBackBy
  refine wpAny_bind (wpAny_field h1 h3 t1 ?_)
  rw [if_neg (by simp)]
  exact wpAny_mono (mark_ok CO hL x y) (fun zz s' hF1=>xA0_1 hF1 fun x' y'=>(xI3_3 ea C H rfl x' hx (y'.held hL))) fun zz zz e=>e
end
section
variable {G:Gl} {c:Cx} {n:Nat}
noncomputable def lNil:WL:=fun zz Q zz H=>Q [] H
noncomputable def lCons (a:WE) (b:WL):WL:=fun ls Q X H=>a ls (fun v H1=>b ls (fun vs H2=>Q (v :: vs) H2) X H1) X H
theorem l_nil:SEs G c n [] lNil:=fun A o s H ls Q X pos hA hs h=>PySem.Calls.spliced_nil (xI1_1 H hs h)
theorem l_cons {e:Expr} {es:List Expr} {a:WE} {b:WL} (ha:SE G c n e a) (hb:SEs G c n es b) (he:∀ env,starEach (e :: es) env = (false,eval e env) :: starEach es env:=by intro _;rfl):SEs G c n (e :: es) (lCons a b):=fun A o s H ls Q X pos hA hs h=>by
  have e1:backTo pos (starEach (e :: es) c.env) = (false,do standAt pos;eval e c.env) :: backTo pos (starEach es c.env) ∨ backTo pos (starEach (e :: es) c.env) = (false,eval e c.env) :: backTo pos (starEach es c.env):=by
    rw [he]
    first | exact .inl rfl | exact .inr rfl
  rcases e1 with e1 | e1
  · rw [e1]
    exact PySem.Calls.spliced_cons (wpAny_bind (wpAny_standAt (ha.go hA hs h (fun v s1 H1 hs1 h1=>hb.go hA hs1 h1 (fun vs s2 H2 hs2 h2=>(xI1_1 H2 hs2 h2)) fun zz zz e=>e) fun zz zz e=>e)))
  · rw [e1]
    exact PySem.Calls.spliced_cons (ha.go hA hs h (fun v s1 H1 hs1 h1=>hb.go hA hs1 h1 (fun vs s2 H2 hs2 h2=>(xI1_1 H2 hs2 h2)) fun zz zz e=>e) fun zz zz e=>e)
noncomputable def CallOk (G:Gl) (c:Cx) (n:Nat) (f:Value) (w:List V -> WV):Prop :=
  ∀ A o s H ls Q X (args:List Value),AOk n c A -> St G c o H ls s -> w (args.map er) Q X H -> wpAny (model G.prog G.w) A (call f args) (RV G c o ls Q) (PX G c o ls X) s
inductive Callee (G:Gl):Value -> Prop
  | ref (a : Addr) : keepIn G.K (.ref a) = true -> Callee G (.ref a)
  | blt (id : String) : Callee G (.builtin id)
  | type (id : String) : Callee G (.type id)
theorem Callee.inj {f g:Value} (x:Callee G f) (e:er g = er f):g = f:=by
  cases x with
  | ref a => exact er_ref e
  | blt a => exact er_bi e
  | type a => exact er_type e
theorem call_by (GO:GlOk G) {f:Value} {first:List Value} {pos:Pos} {trees:List (Bool × Sem Value)} {A:Around} {s:Shared} {Q:Value -> Shared -> Prop} {E:Value -> Shared -> Prop} (hf:Callee G f) (hp:trees.any (·.1) = false)
    (h:wpAny (model G.prog G.w) A (evalArgs f true trees []) (fun a s₁=>a.kw = [] /\ G.h₀.StaysIn s₁.heap /\ wpAny (model G.prog G.w) A (call f (first ++ a.pos) []) Q E s₁) E s) :
    wpAny (model G.prog G.w) A (callWith pos f first trees []) Q E s:=by
  cases hf with
  | ref a hk =>
    refine callWith_of (P:=fun h=>G.K.In h) (by rw [hp];rfl) (keeps_K hk) (wpAny_mono h (fun a s1 hF1=>xA0_2 hF1 fun h1 h2 h3=>⟨GO.kin.keeps h2,by rw [h1];exact h3⟩) fun zz zz e=>e)
  | blt id => exact PySem.Calls.callWith_builtin hp (wpAny_mono h (fun a s1 hF1 => xA0_2 hF1 fun h1 h2 h3 => by rw [h1];exact h3) fun zz zz e => e)
  | type id => exact PyProof.Rows.callWith_type hp (wpAny_mono h (fun a s1 hF1 => xA0_2 hF1 fun h1 h2 h3 => by rw [h1];exact h3) fun zz zz e => e)
noncomputable def PlainArgs (es:List Expr):Prop:=∀ (pos:Pos) env,(backTo pos (starEach es env)).any (·.1) = false /\ ∃ x r,backTo pos (starEach es env) = (false,x) :: r
theorem callWith_ok (GO:GlOk G) {f:Value} {first:List Value} {w:List V -> WV} {l:WL} {es:List Expr} {pos:Pos} {A:Around} {o:Org} {s:Shared} {H:MH} {ls:List V} {Q:QV} {X:XP} (hf:Callee G f) (hw:CallOk G c n f w) (hl:SEs G c n es l)
    (hp:PlainArgs es) (hA:AOk n c A) (hs:St G c o H ls s) (h:l ls (fun vs H1=>w (first.map er ++ vs) Q X H1) X H) :
    wpAny (model G.prog G.w) A (callWith pos f first (backTo pos (starEach es c.env)) []) (RV G c o ls Q) (PX G c o ls X) s:=by
  refine xA0_1 (hp pos c.env) ?_;intro h1 hT1;refine xA2_0 hT1 ?_;(try clear hT1);intro x r e
  refine call_by GO hf h1 ?_
  have:=hl A o s H ls _ X pos hA hs h
  rw [e] at this ⊢
  refine PySem.Calls.evalArgs_plain (wpAny_mono this (fun vs s1 hF1=>xA1_1 hF1 fun H1 hs1 h1=>(xI0_2 rfl hs1.base ?_)) fun zz zz e=>e)
  exact hw A o s1 H1 ls Q X (first ++ vs) hA hs1 (by rw [List.map_append];exact h1)
theorem callWith_ok0 (GO:GlOk G) {f:Value} {first:List Value} {w:List V -> WV} {pos:Pos} {A:Around} {o:Org} {s:Shared} {H:MH} {ls:List V} {Q:QV} {X:XP} (hf:Callee G f) (hw:CallOk G c n f w)
    (hA:AOk n c A) (hs:St G c o H ls s) (h:w (first.map er) Q X H) :
    wpAny (model G.prog G.w) A (callWith pos f first (backTo pos (starEach [] c.env)) []) (RV G c o ls Q) (PX G c o ls X) s :=
  call_by GO hf rfl (evalArgs_nil3 (xI0_2 rfl hs.base (by rw [List.append_nil];exact hw A o s H ls Q X first hA hs h)))
noncomputable def wCall (w:List V -> WV) (l:WL):WE:=fun ls Q X H=>l ls (fun vs H1=>w vs Q X H1) X H
noncomputable def wCall0 (w:List V -> WV):WE:=fun ls Q X H=>w [] Q X H
theorem r_call (GO:GlOk G) {f:Value} {w:List V -> WV} {l:WL} {x:Str} {np pos:Pos} {es:List Expr} (hx:SE G c n (.Name x np) (wVal (er f))) (hf:Callee G f) (hw:CallOk G c n f w) (hl:SEs G c n es l) (hp:PlainArgs es:=by intro _ _;exact ⟨rfl,_,_,rfl⟩) :
    SE G c n (.Call (.Name x np) es [] pos) (wCall w l):=fun A o s H ls Q X hA hs h =>
  wpAny_Call_NameR (hx.val hA hs (fun v s1 hs1 h1=>by
    rw [hf.inj h1]
    exact callWith_ok (first:=[]) GO hf hw hl hp hA hs1 h) fun zz zz e=>e)
theorem r_call0 (GO:GlOk G) {f:Value} {w:List V -> WV} {x:Str} {np pos:Pos} (hx:SE G c n (.Name x np) (wVal (er f))) (hf:Callee G f) (hw:CallOk G c n f w) :
    SE G c n (.Call (.Name x np) [] [] pos) (wCall0 w):=fun A o s H ls Q X hA hs h =>
  wpAny_Call_NameR (hx.val hA hs (fun v s1 hs1 h1=>by
    rw [hf.inj h1]
    exact callWith_ok0 (first:=[]) GO hf hw hA hs1 h) fun zz zz e=>e)
noncomputable def MethOk (G:Gl) (c:Cx) (n:Nat) (name:Str) (chk:V -> MH -> Prop) (w:List V -> WV):Prop :=
  ∀ A o s H ls (pl:Sem Bool) (ov:Value) (E:Value -> Shared -> Prop),AOk n c A -> St G c o H ls s -> chk (er ov) H -> wpAny (model G.prog G.w) A (getMethod ov name pl) (fun fx s'=>St G c o H ls s' /\ Callee G fx.1 /\ fx.2 = [ov] /\ CallOk G c n fx.1 w) E s
noncomputable def wMeth (chk:V -> MH -> Prop) (w:List V -> WV) (a:WE) (l:WL):WE:=fun ls Q X H=>a ls (fun x H1=>chk x H1 /\ l ls (fun vs H2=>w (x :: vs) Q X H2) X H1) X H
noncomputable def wMeth0 (chk:V -> MH -> Prop) (w:List V -> WV) (a:WE):WE:=fun ls Q X H=>a ls (fun x H1=>chk x H1 /\ w [x] Q X H1) X H
theorem r_meth (GO:GlOk G) {name:Str} {chk:V -> MH -> Prop} {w:List V -> WV} {a:WE} {l:WL} {b:Expr} {apos pos:Pos} {es:List Expr} {pl:Env -> Sem Bool} (hm:MethOk G c n name chk w) (ha:SE G c n b a) (hl:SEs G c n es l)
    (he:∀ env,eval (.Call (.Attribute b name apos) es [] pos) env = (do
      let ov <- eval b env
      standAt apos.atName
      let (f,first) <- holding [ov] (getMethod ov name (pl env))
      callWith pos f first (backTo pos (starEach es env)) (backToKw pos (keywordEach [] env))):=by intro _;rfl) (hp:PlainArgs es:=by intro _ _;exact ⟨rfl,_,_,rfl⟩) :
    SE G c n (.Call (.Attribute b name apos) es [] pos) (wMeth chk w a l):=fun A o s H ls Q X hA hs h =>
  methodCall_KW (ha.go hA hs h (fun ov s1 H1 hs1 hqq=>wpAny_mono (hm A o s1 H1 ls _ ov _ hA hs1 hqq.1) (fun fx s2 h2=>by
    rw [h2.2.2.1]
    exact callWith_ok (first:=[ov]) GO h2.2.1 h2.2.2.2 hl hp hA h2.1 hqq.2) fun zz zz e=>e) fun zz zz e=>e) (he _)
theorem r_meth0 (GO:GlOk G) {name:Str} {chk:V -> MH -> Prop} {w:List V -> WV} {a:WE} {b:Expr} {apos pos:Pos} {pl:Env -> Sem Bool} (hm:MethOk G c n name chk w) (ha:SE G c n b a)
    (he:∀ env,eval (.Call (.Attribute b name apos) [] [] pos) env = (do
      let ov <- eval b env
      standAt apos.atName
      let (f,first) <- holding [ov] (getMethod ov name (pl env))
      callWith pos f first (backTo pos (starEach [] env)) (backToKw pos (keywordEach [] env))):=by intro _;rfl) :
    SE G c n (.Call (.Attribute b name apos) [] [] pos) (wMeth0 chk w a):=fun A o s H ls Q X hA hs h =>
  methodCall_KW (ha.go hA hs h (fun ov s1 H1 hs1 hqq=>wpAny_mono (hm A o s1 H1 ls _ ov _ hA hs1 hqq.1) (fun fx s2 h2=>by
    rw [h2.2.2.1]
    exact callWith_ok0 (first:=[ov]) GO h2.2.1 h2.2.2.2 hA h2.1 hqq.2) fun zz zz e=>e) fun zz zz e=>e) (he _)
@[irreducible] noncomputable def hAttr (C:Addr) (k:String) (v:V) (H:MH) (Q:V -> Prop):Prop:=onRef v fun a=>onInst (H a) fun C' dx=>C' = C /\ onAttrs (H dx) fun es=>onSome (es.lookup k) fun u=>nbi u (Q u)
theorem hAttr_of {C x dx:Addr} {k:String} {H:MH} {Q:V -> Prop} {es:List (String × V)} {u:V} (h1:H x = some (.inst C dx)) (h2:H dx = some (.attrs es)) (hl:es.lookup k = some u) (h:nbi u (Q u)):hAttr C k (.ref x) H Q:=by
  unfold hAttr
  refine onInst_of h1 ⟨rfl,onAttrs_of h2 ?_⟩
  rw [hl];exact h
noncomputable def wAttr (C:Addr) (k:String) (a:WE):WE:=fun ls Q X H=>a ls (fun v H1=>hAttr C k v H1 (fun u=>Q u H1)) X H
end
section
variable {G:Gl} {c:Cx} {o:Org} {H:MH} {ls:List V} {s s':Shared}
theorem St.gen (C:CxOk G c) (x:St G c o H ls s) {H':MH} (hk:∀ b y,s.heap.get? b = some y -> H b = none -> b ≠ c.env.locals -> s'.heap.get? b = some y)
    (hL:∀ m,s.heap.Ns c.env.locals m -> s'.heap.Ns c.env.locals m)
    (hH:∀ a m,H' a = some m -> (H a ≠ none ∨ s.heap.get? a = none) /\ ∃ ob,s'.heap.get? a = some ob /\ ORel m ob)
    (hex:∀ b,H b ≠ none -> ∃ y,s'.heap.get? b = some y) (hg:s'.gens = s.gens) (hos:s'.os = s.os):St G c o H' ls s':=by
  refine xA1_1 x.frame.loc ?_;intro m hn hl
  have hn':=hL m hn
  have ex:∀ b y,s.heap.get? b = some y -> ∃ z,s'.heap.get? b = some z:=fun b y e=>by
    by_cases q:H b = none
    · by_cases q2:b = c.env.locals
      · refine xA3_1 hn' ?_;(try clear hn');intro ol _ _ h1 _
        exact ⟨ol,q2 ▸ h1⟩
      · exact ⟨y,hk b y e q q2⟩
    · exact hex b q
  have hLf:∀ y,s.heap.get? c.env.locals = some y -> ∀ vs,y.data ≠ .fields vs:=fun y e vs q=>by
    refine xA3_2 hn ?_;(try clear hn);intro ol _ _ h1 h2 _
    rw [e] at h1;cases h1;rw [q] at h2;cases h2
  have noneH:∀ b,H b = none -> ∀ y,s.heap.get? b = some y -> H' b = none:=fun b q y e=>by
    cases q2:H' b with
    | none => rfl
    | some m =>
      rcases (hH b m q2).1 with h | h
      · exact absurd q h
      · rw [e] at h;cases h
  refine ⟨hg.trans x.gens,hos.trans x.os,fun b y e=>?_,fun a mb e=>?_,fun b hb=>?_,fun y ca e=>?_,?_,⟨(xI1_1 m hn' hl),fun i y hi hy=>?_⟩,?_,?_⟩
  · have q:H b = none:=by
      cases q:H b with
      | none => rfl
      | some m => rw [(x.own b m q).1] at e;cases e
    exact hk b y (x.base b y e) q (fun q2=>by rw [q2,(x.ownEx _ C.loc).1] at e;cases e)
  · refine xA0_1 (hH a mb e) ?_;intro h1 hT1;refine xA1_1 hT1 ?_;(try clear hT1);intro ob h2 h3
    rcases h1 with h1 | h1
    · refine xA1_0 (Option.ne_none_iff_exists'.mp h1) ?_;intro m0 hm0
      refine xA0_4 (x.own a m0 hm0) ?_;intro g1 g2 g3 g4 _
      exact (xI0_4 g1 g2 g3 g4 (xI1_1 ob h2 h3))
    · refine xA0_5 (x.fresh h1) ?_;intro f1 f2 f3 f4 f5 f6
      exact (xI0_4 f2 f3 f4 f5 (xI1_1 ob h2 h3))
  · refine xA0_1 (x.ownEx b hb) ?_;intro h1 hT1;refine xA1_0 hT1 ?_;(try clear hT1);intro ob h2
    exact ⟨h1,ex b ob h2⟩
  · refine xA0_1 (x.free y ca e) ?_;intro h1 hT1;refine xA1_0 hT1 ?_;(try clear hT1);intro oc h2
    exact ⟨noneH ca h1 oc h2,ex ca oc h2⟩
  · refine xA1_2 x.tab ?_;intro ps h1 h2 h3
    have un:∀ b y vs,s.heap.get? b = some y -> H b = none -> y.data = .fields vs -> s'.heap.get? b = some y:=fun b y vs e q hd=>hk b y e q (fun q=>hLf y (q ▸ e) vs hd)
    have hP:H G.P = none:=by
      cases q:H G.P with
      | none => rfl
      | some m => exact ((x.own _ m q).2.1 rfl).elim
    refine (xI1_2 ps (un _ _ _ h1 hP rfl) h2 (fun p hp cv hc=>?_))
    refine xA4_3 (h3 p hp cv hc) ?_;intro ca oc vs t e1 e2 e3 e4
    refine (xI4_3 ca oc vs t e1 (un _ _ _ e2 ?_ e3) e3 e4)
    cases q:H ca with
    | none => rfl
    | some m =>
      refine xA1_1 (x.live q) ?_;intro ob g1 g2
      rw [e2] at g1;cases g1
      exact (orel_code g2 e3 e4).elim
  · refine xA2_2 (x.frame.cell i y hi hy) ?_;intro ca u h1 hT1 h3;refine xA1_1 hT1 ?_;(try clear hT1);intro oc h2 h2'
    refine (xI2_2 ca u h1 (xI1_1 oc (hk ca oc h2 (x.free y ca h1).1 (fun q=>?_)) h2') h3)
    refine xA3_2 hn ?_;(try clear hn);intro ol _ _ g1 g2 _
    rw [q,g1] at h2;cases h2;rw [g2] at h2';cases h2'
  · refine funFrames_of x.fr fun b hb y e hne=>?_
    by_cases q:b = c.env.locals
    · refine xA3_2 hn' ?_;(try clear hn');intro ol _ _ g1 g2 _
      exact (xI1_1 ol (q ▸ g1) (fun vs q=>by rw [g2] at q;cases q))
    · refine (xI1_1 y (hk b y e ?_ q) hne)
      cases q:H b with
      | none => rfl
      | some m => exact ((x.own b m q).2.2.2.1 hb).elim
  · refine ⟨fun b y h1 h2 h3 h4 h5=>hk b y (x.tr.keep b y h1 h2 h3 h4 h5) (x.tr.claim b y h1 h2) (fun q=>h4 (q ▸ C.loc)),fun b y h1 h2 h3=>?_,fun b y h1 h2=>?_,fun b y e=>?_⟩
    · refine xA1_0 (x.tr.frm b y h1 h2 h3) ?_;intro sl e
      refine ⟨sl,hk b _ e ?_ (fun q=>h3 (q ▸ C.loc))⟩
      cases q:H b with
      | none => rfl
      | some m => exact ((x.own b m q).2.2.2.1 h2).elim
    · refine xA1_0 (x.tr.ex b y h1) ?_;intro z hz
      exact noneH b (x.tr.claim b y h1 h2) z hz
    · refine xA1_0 (x.tr.ex b y e) ?_;intro z hz
      exact ex b z hz
noncomputable def rest (h:Heap) (l:List Addr):List (Addr × Obj):=(List.range h.objs.size).filterMap fun b=>if b ∈ l then none else (h.get? b).map (b,·)
theorem mem_rest {h:Heap} {l:List Addr} {p:Addr × Obj}:p ∈ rest h l ↔ h.get? p.1 = some p.2 /\ p.1 ∉ l:=by
  unfold rest
  rw [List.mem_filterMap]
  constructor
  · intro hT1;refine xA1_1 hT1 ?_;(try clear hT1);intro b hb e
    split at e
    · cases e
    · rename_i hn
      refine xA1_1 (Option.map_eq_some_iff.mp e) ?_;intro y hy hT1;subst hT1
      exact ⟨hy,hn⟩
  · intro hT1;refine xA0_1 hT1 ?_;(try clear hT1);intro h1 h2
    exact (xI1_1 p.1 (List.mem_range.mpr (Heap.lt_size h1)) (by rw [if_neg h2,h1];rfl))
theorem empty_get {a:Addr}:({}:Heap).get? a = none:=rfl
theorem St.frE (C:CxOk G c) {m:Str -> Option Value} (hn:s.heap.Ns c.env.locals m):Fr {} c.env.locals s.heap m:=⟨hn,fun b y e=>(by rw [empty_get] at e;cases e),Nat.zero_le _⟩
theorem news_rest {L:Addr} (h:Heap) (l:List Addr) (hL:L ∈ l):News {} L h (rest h l):=fun p hp=>by
  refine xA0_1 (mem_rest.mp hp) ?_;intro h1 h2
  exact (xI0_2 h1 (fun q=>h2 (q ▸ hL)) rfl)
end
section
variable {G:Gl} {c:Cx} {n:Nat}
theorem str_inj {a b:String} (h:Str.ofString a = Str.ofString b):a = b:=by
  rw [Str.ofString_eq_toList,Str.ofString_eq_toList] at h
  have h1:(a.toList.map Char.toNat) = b.toList.map Char.toNat:=by
    have:=congrArg Str.cps h
    simpa using congrArg Array.toList this
  have h2:a.toList = b.toList:=(List.map_inj_right (fun x y e=>by
    have:x.val = y.val:=UInt32.toNat_inj.mp e
    exact Char.ext this)).mp h1
  exact String.toList_inj.mp h2
theorem isStr_of_key {e:DictEntry} {x:Str} {t:Tok} (h:e.key = .str x t) (y:Str):e.key.isStr y = (x == y):=by rw [h];rfl
theorem ents_get {ens:List DictEntry} {es:List (String × V)} (h:EntsAre ens es) (k:String) :
    (∀ u,es.lookup k = some u -> ∃ v,getL (Str.ofString k) ens = some (some v) /\ er v = u) /\ (es.lookup k = none -> getL (Str.ofString k) ens = some none):=by
  unfold getL
  have hr:ens.any (·.refKey) = false:=by
    induction h with
    | nil => rfl
    | cons h1 _ _ ih => rw [List.any_cons,ih,Bool.or_false];simp [DictEntry.refKey,h1]
  induction h with
  | nil => exact ⟨fun u e => (by cases e),fun zz => rfl⟩
  | @cons e x t v ens es hk hv hr' ih =>
    have hr2:ens.any (·.refKey) = false:=by rw [List.any_cons] at hr;exact (Bool.or_eq_false_iff.mp hr).2
    have ih:=ih hr2
    rw [List.lookup_cons,List.find?_cons,isStr_of_key hk]
    by_cases q:k = x
    · subst q
      simp only [beq_self_eq_true]
      exact ⟨fun u e'=>(xI1_1 e.val rfl (by rw [hv];exact Option.some.inj e')),fun e'=>(by cases e')⟩
    · have q1:(k == x) = false:=by simp [q]
      have q2:(Str.ofString x == Str.ofString k) = false:=by
        cases hq:(Str.ofString x == Str.ofString k) with
        | false => rfl
        | true => exact absurd (str_inj (eq_of_beq hq)).symm q
      rw [q1,q2]
      simp only [List.any_cons,hr2,Bool.or_false] at ih ⊢
      have hne:e.refKey = false:=by rw [List.any_cons] at hr;exact (Bool.or_eq_false_iff.mp hr).1
      rw [hne]
      exact ih
structure AttrK (K:Frag) (C:Addr) (name:Str):Prop where
  plain:plainGet K C name = true
  dict:hasDictIn K C = true
  attr:∃ a,findIn K (.ref C) name = some a /\ noGet K a = true
  setattr:findIn K (.ref C) "__setattr__" = some (some (.builtin "object.__setattr__"))
  over:plainOver K C = true
  taker:takerIn K C name = some none
theorem St.inst {o:Org} {H:MH} {ls:List V} {s:Shared} (x:St G c o H ls s) {a C dx:Addr} {es:List (String × V)} (h1:H a = some (.inst C dx)) (h2:H dx = some (.attrs es)):∃ ens k,EntsAre ens es /\ s.heap.get? dx = some (dictOf ens k) /\ InstAt s.heap a (instObj C dx) C (some (dictOf ens k)):=by
  refine xA1_1 (x.live h1) ?_;intro ob g1 g2
  cases g2
  refine xA1_1 (x.live h2) ?_;intro od g3 g4
  refine xA2_1 g4 ?_;(try clear g4);intro ens k hT1;subst hT1;intro g5
  exact (xI2_2 ens k g5 g3 ⟨g1,rfl,rfl,g3⟩)
theorem handed_er {v:Value} {u:V} (h:er v = u) (hu:∀ i,u ≠ .bi i):handedIn v = true:=by
  cases v <;> first | rfl | (subst h;exact absurd rfl (hu _))
theorem get_ok (GO:GlOk G) {A:Around} {o:Org} {s:Shared} {H:MH} {ls:List V} {E:Value -> Shared -> Prop} {Q:V -> Prop} {ov:Value} {C:Addr} {k:String} {expr:Bool} (KC:AttrK G.K C (Str.ofString k))
    (hs:St G c o H ls s) (h:hAttr C k (er ov) H Q) :
    wpAny (model G.prog G.w) A (getAttr ov (Str.ofString k) expr) (fun v s'=>St G c o H ls s' /\ Q (er v)) E s:=by
  unfold hAttr at h
  refine onRef_k h ?_
  clear h
  intro a e h
  subst e
  refine onInst_k h ?_
  clear h
  intro C dx h1 h
  refine xA0_1 h ?_;(try clear h);intro hT1;subst hT1;intro h
  refine onAttrs_k h fun es h2 h=>onSome_k h fun u h3 h=>?_
  have h:=nbi_of h
  refine xA2_2 (hs.inst h1 h2) ?_;intro ens n g1 g2 I
  refine xA1_1 ((ents_get g1 k).1 u h3) ?_;intro v g3 g4
  refine xA1_1 KC.attr ?_;intro at' ha' hn
  refine get_value (GO.kin.keeps hs.base) I (plainGet_of KC.plain).1 (findObj_own KC.dict ha' hn (by rw [lookIn_dict];exact g3)) (handed_er g4 h.1) ⟨hs.keeps (fun zz zz e=>e) rfl rfl,by rw [g4];exact h.2⟩
end
noncomputable def aput (k:String) (v:V):List (String × V) -> List (String × V)
  | [] => [(k,v)]
  | (x,u) :: r => if x == k then (x,v) :: r else (x,u) :: aput k v r
theorem aput_len (k:String) (v:V):∀ es,(aput k v es).length <= es.length + 1
  | [] => Nat.le_refl _
  | (x,u) :: r => by
    unfold aput
    split
    · simp
    · have:=aput_len k v r;simp only [List.length_cons];exact oA245 this
theorem ents_len {ens:List DictEntry} {es:List (String × V)} (h:EntsAre ens es):ens.length = es.length:=by
  induction h with
  | nil => rfl
  | cons _ _ _ ih => simp [ih]
theorem ents_put {ens:List DictEntry} {es:List (String × V)} (h:EntsAre ens es) (k:String) (hsh:Int) (t:Tok) (v:Value):EntsAre (putL (Str.ofString k) hsh (.str (Str.ofString k) t) v ens) (aput k (er v) es):=by
  induction h with
  | nil => exact .cons rfl rfl .nil
  | @cons e x t' u ens es hk hv hr ih =>
    unfold putL aput
    rw [isStr_of_key hk]
    by_cases q:x = k
    · subst q
      simp only [beq_self_eq_true,if_true]
      exact .cons hk rfl hr
    · have q2:(Str.ofString x == Str.ofString k) = false:=by
        cases hq:(Str.ofString x == Str.ofString k) with
        | false => rfl
        | true => exact absurd (str_inj (eq_of_beq hq)) q
      have q1:(x == k) = false:=by simp [q]
      rw [q1,q2]
      simp only [Bool.false_eq_true,if_false]
      exact .cons hk hv ih
section
variable {G:Gl} {c:Cx} {n:Nat} {A:Around} {o:Org} {s:Shared} {H:MH} {ls:List V} {E:Value -> Shared -> Prop}
theorem St.upd1 (C:CxOk G c) (x:St G c o H ls s) {s':Shared} {a:Addr} {m:MO} {ob:Obj} (ha:H a ≠ none ∨ s.heap.get? a = none) (hk:∀ b y,s.heap.get? b = some y -> b ≠ a -> b ≠ c.env.locals -> s'.heap.get? b = some y)
    (hL:∀ m,s.heap.Ns c.env.locals m -> s'.heap.Ns c.env.locals m) (hob:s'.heap.get? a = some ob) (hm:ORel m ob) (hg:s'.gens = s.gens) (hos:s'.os = s.os):St G c o (upd H a m) ls s':=by
  have nL:∀ b,H b ≠ none -> b ≠ c.env.locals:=fun b hb q=>by
    refine xA1_0 (Option.ne_none_iff_exists'.mp hb) ?_;intro m hm
    exact (x.own b m hm).2.2.1 (q ▸ C.loc)
  have ne:∀ b,H b = none -> ∀ y,s.heap.get? b = some y -> b ≠ a:=fun b e y hy q=>by
    rcases ha with ha | ha
    · exact ha (q ▸ e)
    · rw [q,ha] at hy;cases hy
  refine x.gen C (fun b y e q q2=>hk b y e (ne b q y e) q2) hL (fun b mb e=>?_) (fun b hb=>?_) hg hos
  · by_cases q:b = a
    · subst q;rw [upd_self] at e;cases e
      exact ⟨ha,(xI1_1 ob hob hm)⟩
    · rw [upd_ne _ _ q] at e
      refine xA1_1 (x.live e) ?_;intro ob' h1 h2
      have hb:H b ≠ none:=by rw [e];exact fun q=>by cases q
      exact ⟨.inl hb,(xI1_1 ob' (hk b ob' h1 q (nL b hb)) h2)⟩
  · by_cases q:b = a
    · exact ⟨ob,q ▸ hob⟩
    · refine xA1_0 (Option.ne_none_iff_exists'.mp hb) ?_;intro m hm
      refine xA1_1 (x.live hm) ?_;intro ob' h1 h2
      exact ⟨ob',hk b ob' h1 q (nL b hb)⟩
@[irreducible] noncomputable def hSet (C:Addr) (k:String) (v:V) (u:V) (H:MH) (Q:MH -> Prop):Prop:=onRef v fun a=>onInst (H a) fun C' dx=>C' = C /\ onAttrs (H dx) fun es=>es.length <= 900 /\ Q (upd H dx (.attrs (aput k u es)))
theorem hSet_of {C x dx:Addr} {k:String} {H:MH} {Q:MH -> Prop} {es:List (String × V)} {u:V} (h1:H x = some (.inst C dx)) (h2:H dx = some (.attrs es)) (hz:es.length <= 900) (h:Q (upd H dx (.attrs (aput k u es)))):hSet C k (.ref x) u H Q:=by
  unfold hSet
  exact onInst_of h1 ⟨rfl,onAttrs_of h2 ⟨hz,h⟩⟩
theorem set_ok (GO:GlOk G) (C:CxOk G c) {Q:MH -> Prop} {ov v:Value} {Cl:Addr} {k:String} (KC:AttrK G.K Cl (Str.ofString k))
    (hs:St G c o H ls s) (h:hSet Cl k (er ov) (er v) H Q) :
    wpAny (model G.prog G.w) A (setAttr ov (Str.ofString k) v) (fun zz s'=>∃ H',St G c o H' ls s' /\ Q H') E s:=by
  unfold hSet at h
  refine onRef_k h ?_
  clear h
  intro a e h
  subst e
  refine onInst_k h ?_
  clear h
  intro Cl dx h1 h
  refine xA0_1 h ?_;(try clear h);intro hT1;subst hT1;intro h
  refine onAttrs_k h fun es h2 h=>?_
  refine xA2_2 (hs.inst h1 h2) ?_;intro ens m g1 g2 I
  refine xA1_1 hs.frame.loc ?_;intro mm hn _
  have hdx:dx ≠ c.env.locals:=fun q=>(hs.own dx _ h2).2.2.1 (q ▸ C.loc)
  have hs1:St G c o H ls { s with toks:=s.toks + 1 }:=hs.keeps (fun zz zz e=>e) rfl rfl
  have F:Fr {} c.env.locals s.heap mm:=St.frE C hn
  have N:News {} c.env.locals s.heap ([] ++ (dx,dictOf ens m) :: rest s.heap [c.env.locals,dx]):=fun p hp=>by
    rcases List.mem_cons.mp hp with rfl | hp
    · exact (xI0_2 g2 hdx rfl)
    · exact news_rest s.heap _ (.head _) p hp
  have hl:(lookIn (Str.ofString k) (dictOf ens m)).isSome = true:=by
    rw [lookIn_dict]
    cases q:es.lookup k with
    | none => rw [(ents_get g1 k).2 q];rfl
    | some u => obtain ⟨v',e1,_⟩ := (ents_get g1 k).1 u q;rw [e1];rfl
  refine set_plain (GO.kin.keeps hs.base) I KC.setattr ?_
  refine osa_dict (s:={ s with toks:=s.toks + 1 }) F N (GO.kin.keeps hs.base) I rfl KC.over KC.taker KC.dict hl (fun zz h=>nomatch h) (fun p hp=>?_) (putName_dict _ _ _ _ _ _) rfl ?_ fun h' F' N'=>?_
  · intro q;exact (mem_rest.mp hp).2 (by rw [q];exact .tail _ (.head _))
  · have e1:=ents_len (ents_put g1 k (PyData.keyHash G.w.params (Str.ofString k)) (s.toks + 1) v)
    have e2:=aput_len k (er v) es
    have e3:=h.1
    show (putL (Str.ofString k) (PyData.keyHash G.w.params (Str.ofString k)) (Value.str (Str.ofString k) (s.toks + 1)) v ens).length <= 1000
    lia
  · refine (xI1_1 _ (hs.upd1 (s':={ s with heap:=h',toks:=s.toks + 1 + 1 }) (m:=.attrs (aput k (er v) es)) C (.inl (by rw [h2];exact fun q=>by cases q)) (fun b y e hb hb2=>?_) (fun m2 hm2=>?_) (N' (dx,_) (List.mem_append_right _ (.head _))).1 (xI2_1 _ _ rfl (ents_put g1 k _ _ v)) rfl rfl) h.2)
    · exact (N' (b,y) (List.mem_append_right _ (.tail _ (mem_rest.mpr ⟨e,by simp [hb,hb2]⟩)))).1
    · have:m2 = mm:=by
        refine xA3_3 hm2 ?_;(try clear hm2);intro o1 es1 ep1 a1 a2 a3 a4
        refine xA3_3 hn ?_;(try clear hn);intro o2 es2 ep2 b1 b2 b3 b4
        rw [a1] at b1;cases b1;rw [a2] at b2;cases b2
        funext x;rw [<- a4,<- b4]
      rw [this];exact F'.ns
theorem r_attr (GO:GlOk G) {Cl:Addr} {k:String} {a:WE} {e:Expr} {pos:Pos} (KC:AttrK G.K Cl (Str.ofString k)) (ha:SE G c n e a)
    (he:∀ env,eval (.Attribute e (Str.ofString k) pos) env = (do
      let o <- eval e env
      standAt pos.atName
      let r <- holding [o] (getAttr o (Str.ofString k) true)
      letTemporaryGo e o r
      pure r):=by intro _;rfl):SE G c n (.Attribute e (Str.ofString k) pos) (wAttr Cl k a):=fun A o s H ls Q X hA hs h =>
  Attribute_any_ (ha.go hA hs h (fun ov s1 H1 hs1 h1=>wpAny_mono (get_ok GO KC hs1 h1) (fun v s2 hF1=>xA0_1 hF1 fun hs2 h2=>(xI1_1 H1 hs2 h2)) fun zz zz e=>e) fun zz zz e=>e) (he _)
noncomputable def sAttr (Cl:Addr) (k:String) (a:WE) (e:WE):WS:=fun ls Qn zz X H=>e ls (fun u H1=>a ls (fun v H2=>hSet Cl k v u H2 (fun H3=>Qn ls H3)) X H1) X H
theorem s_attr (GO:GlOk G) (C:CxOk G c) {Cl:Addr} {k:String} {a w:WE} {b e:Expr} {px pos:Pos} (KC:AttrK G.K Cl (Str.ofString k)) (ha:SE G c n b a) (he:SE G c n e w)
    (hsw:∀ env,swapsWith e (some (.Attribute b (Str.ofString k) px)) pos.line env = pure false:=by intro _;rfl):SS G c n (.Assign [.Attribute b (Str.ofString k) px] e pos) (sAttr Cl k a w):=fun A o s H ls Qn Qr X hA hs h =>
  plainObj_wpAny_Assign_Attribute (he.go hA hs h (fun v s1 H1 hs1 h1=>ha.go hA hs1 h1 (fun ov s2 H2 hs2 h2=>wpAny_mono (set_ok GO C KC hs2 h2) (fun zz s3 hF1=>xA1_1 hF1 fun H3 hs3 h3=>(xI2_1 ls H3 hs3 h3)) fun zz zz e=>e) fun zz zz e=>⟨ls,e⟩) fun zz zz e=>⟨ls,e⟩) (hsw _)
noncomputable def sAugAttr (f:W2) (Cl:Addr) (k:String) (a:WE) (e:WE):WS:=fun ls Qn zz X H=>a ls (fun v H1=>hAttr Cl k v H1 (fun x=>e ls (fun y H2=>f x y (fun u H3=>hSet Cl k v u H3 (fun H4=>Qn ls H4)) X H2) X H1)) X H
theorem s_augattr (GO:GlOk G) (C:CxOk G c) {f:W2} {op:Operator} {Cl:Addr} {k:String} {a w:WE} {b e:Expr} {px pos:Pos} (KC:AttrK G.K Cl (Str.ofString k)) (hf:S2 G c n (inplaceOp op) f) (ha:SE G c n b a) (he:SE G c n e w) :
    SS G c n (.AugAssign (.Attribute b (Str.ofString k) px) op e pos) (sAugAttr f Cl k a w):=fun A o s H ls Qn Qr X hA hs h =>
  wpAny_AugAssign_AttributeAny (ha.go hA hs h (fun ov s1 H1 hs1 h1=>wpAny_mono (get_ok GO KC hs1 h1) (fun x s2 hF1=>xA0_1 hF1 fun hs2 h2 =>
    he.go hA hs2 h2 (fun y s3 H3 hs3 h3=>hf.go hA hs3 h3 (fun u s4 H4 hs4 h4=>wpAny_mono (set_ok GO C KC hs4 h4) (fun zz s5 hF1=>xA1_1 hF1 fun H5 hs5 h5=>(xI2_1 ls H5 hs5 h5)) fun zz zz e=>e) fun zz zz e=>⟨ls,e⟩) fun zz zz e=>⟨ls,e⟩) fun zz zz e=>e) fun zz zz e=>⟨ls,e⟩)
end
section
variable {G:Gl}
theorem St.back {c c':Cx} {o o':Org} {H H':MH} {ls ls':List V} {s s':Shared} (C:CxOk G c) (x:St G c o H ls s) (hk:∀ b y,s.heap.get? b = some y -> o'.h.get? b = some y) (ho':o'.H = H)
    (hfr:∀ b ∈ c.frames,b ∈ c'.frames /\ b ∉ c'.own) (hfr':∀ b ∈ c'.frames,b ∈ c.frames ∨ s.heap.get? b = none) (hown':∀ b ∈ c'.own,s.heap.get? b = none)
    (hst:s'.heap.FunFrames G.h₀ c'.stack -> s'.heap.FunFrames G.h₀ c.stack) (y:St G c' o' H' ls' s'):St G c o H' ls s':=by
  have hH:∀ b,H b = none -> o'.H b = none:=fun b e=>by rw [ho'];exact e
  have claim:∀ b z,s.heap.get? b = some z -> H b = none -> H' b = none:=fun b z e q=>y.tr.claim b z (hk b z e) (hH b q)
  have ex:∀ b z,s.heap.get? b = some z -> ∃ u,s'.heap.get? b = some u:=fun b z e=>y.tr.ex b z (hk b z e)
  have up:∀ b z,s.heap.get? b = some z -> H b = none -> b ≠ G.P -> ∃ sl,s'.heap.get? b = some { z with slots:=sl }:=fun b z e q hP=>by
    have no:b ∉ c'.own:=fun q=>by rw [hown' b q] at e;cases e
    by_cases q2:b ∈ c'.frames
    · exact y.tr.frm b z (hk b z e) q2 no
    · exact ⟨z.slots,y.tr.keep b z (hk b z e) (hH b q) hP no q2⟩
  have nH:∀ b ∈ c.own,H b = none:=fun b hb=>by
    cases q:H b with
    | none => rfl
    | some m => exact ((x.own b m q).2.2.1 hb).elim
  refine xA1_1 x.tab ?_;intro ps hP _
  have neP:∀ b z,s.heap.get? b = some z -> (∀ vs,z.data ≠ .fields vs) -> b ≠ G.P:=fun b z e hd q=>by rw [q,hP] at e;cases e;exact hd _ rfl
  refine ⟨y.gens,y.os,y.base,fun a m e=>?_,fun b hb=>?_,fun z ca e=>?_,y.tab,⟨?_,fun i z hi hz=>?_⟩,hst y.fr,?_⟩
  · refine xA0_4 (y.own a m e) ?_;intro h1 h2 h3 h4 hT1;refine xA1_1 hT1 ?_;(try clear hT1);intro ob h5 h6
    refine (xI0_4 h1 h2 (fun q=>?_) (fun q=>h4 (hfr a q).1) (xI1_1 ob h5 h6))
    refine xA0_1 (x.ownEx a q) ?_;intro _ hT1;refine xA1_0 hT1 ?_;(try clear hT1);intro ob' g
    rw [claim a ob' g (nH a q)] at e;cases e
  · refine xA0_1 (x.ownEx b hb) ?_;intro h1 hT1;refine xA1_0 hT1 ?_;(try clear hT1);intro ob h2
    exact ⟨h1,ex b ob h2⟩
  · refine xA0_1 (x.free z ca e) ?_;intro h1 hT1;refine xA1_0 hT1 ?_;(try clear hT1);intro oc h2
    exact ⟨claim ca oc h2 h1,ex ca oc h2⟩
  · refine xA1_1 x.frame.loc ?_;intro m hT1 hl;refine xA3_3 hT1 ?_;(try clear hT1);intro ol es ep n1 n2 n3 n4
    refine xA1_0 (up _ _ n1 (nH _ C.loc) (neP _ _ n1 (fun vs q=>by rw [n2] at q;cases q))) ?_;intro sl h3
    exact (xI1_1 m (xI3_3 _ es ep h3 n2 n3 n4) hl)
  · refine xA2_2 (x.frame.cell i z hi hz) ?_;intro ca u h1 hT1 h4;refine xA1_1 hT1 ?_;(try clear hT1);intro oc h2 h2'
    refine xA1_0 (up ca oc h2 (x.free z ca h1).1 (neP _ _ h2 (fun vs q=>by rw [h2'] at q;cases q))) ?_;intro sl h5
    exact (xI2_2 ca u h1 (xI1_1 _ h5 h2') h4)
  · refine ⟨fun b z h1 h2 h3 h4 h5=>?_,fun b z h1 h2 h3=>?_,fun b z h1 h2=>?_,fun b z h1=>?_⟩
    · have e:=x.tr.keep b z h1 h2 h3 h4 h5
      refine y.tr.keep b z (hk b z e) (hH b (x.tr.claim b z h1 h2)) h3 (fun q=>by rw [hown' b q] at e;cases e) (fun q=>?_)
      rcases hfr' b q with q | q
      · exact h5 q
      · rw [q] at e;cases e
    · refine xA1_0 (x.tr.frm b z h1 h2 h3) ?_;intro sl e
      refine xA1_0 (y.tr.frm b _ (hk b _ e) (hfr b h2).1 (hfr b h2).2) ?_;intro sl' e'
      exact ⟨sl',e'⟩
    · refine xA1_0 (x.tr.ex b z h1) ?_;intro u hu
      exact claim b u hu (x.tr.claim b z h1 h2)
    · refine xA1_0 (x.tr.ex b z h1) ?_;intro u hu
      exact ex b u hu
theorem New.back {c c':Cx} {o o':Org} {H H':MH} {ls:List V} {s:Shared} (x:St G c o H ls s) (hk:∀ b y,s.heap.get? b = some y -> o'.h.get? b = some y)
    (hfr:∀ b ∈ c.frames,b ∈ c'.frames) {h:Heap} {a:Addr} (y:New G c' o' H' h a):New G c o H' h a :=
  ⟨y.base,y.H,y.P,fun q=>by obtain ⟨_,ob,e⟩:=x.ownEx a q;exact y.org ob (hk a ob e),fun q=>y.frm (hfr a q),fun z q=>by
    refine xA1_0 (x.tr.ex a z q) ?_;intro u hu
    exact y.org u (hk a u hu),fun z q=>by
    refine xA0_1 (x.free z a q) ?_;intro _ hT1;refine xA1_0 hT1 ?_;(try clear hT1);intro oc e
    exact y.org oc (hk a oc e),y.tab⟩
noncomputable def RC (G:Gl) (c:Cx) (o:Org) (ls:List V) (Q:QV) (X:XP) (r:Result) (s':Shared):Prop:=match r with
  | .ok (.ret v) => RV G c o ls Q v s'
  | .ok _ => False
  | .error e => PX G c o ls X e s'
noncomputable def FnOk (G:Gl) (n:Nat) (f:Value) (w:List V -> WV):Prop :=
  ∀ c A o s H ls Q X (args:List Value),CxOk G c -> AOk n c A -> St G c o H ls s -> w (args.map er) Q X H -> codeAny (model G.prog G.w) A (.call f ⟨args,[]⟩) (RC G c o ls Q X) s
theorem FnOk.call {n m:Nat} {f:Value} {w:List V -> WV} {c:Cx} (h:FnOk G n f w) (hn:n <= m) (C:CxOk G c):CallOk G c m f w:=fun A o s H ls Q X args hA hs hw =>
  wpAny_call (codeAny_mono (h c A o s H ls Q X args C (hA.le hn) hs hw) fun r s' hr=>by
    cases r with
    | error e => exact hr
    | ok f => cases f <;> exact hr)
structure FnRec (G:Gl) (fa:Addr) (name qual:Str) (params:Arguments) (body:List Stmt) (scope:Scope) (dV kV doc pm:Value) (an:Option Addr) (cdv ct:Value):Prop where
  obj:∃ oc od sl,G.h₀.get? fa = some ⟨oc,od,.func (fnX name qual params body scope [] dV kV doc pm an cdv ct),sl⟩
  code:G.h₀.CodeRec cdv qual
noncomputable def cxP (qual:Str) (scope:Scope) (fa:Addr) (cdv:Value) (names:List Str) (L:Addr) (stack:List Env):Cx :=
  { env:=envX qual scope L fa cdv [],stack:=envX qual scope L fa cdv [] :: stack,names:=names,own:=[L] }
noncomputable def cxC (qual:Str) (scope:Scope) (fa:Addr) (cdv:Value) (names:List Str) (L:Addr) (stack:List Env):Cx :=
  { env:=envX qual scope L fa cdv (cellsFrom (L + 1) scope.names []),stack:=envX qual scope L fa cdv (cellsFrom (L + 1) scope.names []) :: stack,names:=names,own:=L :: (cellsFrom (L + 1) scope.names []).map (·.2) }
noncomputable def fnW (wb:WS) (m:Nat) (vals:List V):WV:=fun Q X H=>wb (vals ++ List.replicate m .unb) (fun zz H'=>Q .none H') Q X H
theorem lookup_mem {β:Type}:∀ {l:List (Str × β)} {x:Str} {v:β},(l.map (·.1)).Nodup -> (x,v) ∈ l -> l.lookup x = some v
  | (y,u) :: r,x,v,hn,hm => by
    rw [List.map_cons,List.nodup_cons] at hn
    rcases List.mem_cons.mp hm with e | hm
    · cases e;rw [List.lookup_cons];simp
    · have:x ≠ y:=fun q=>hn.1 (by rw [<- q];exact List.mem_map_of_mem (f:=(·.1)) hm)
      have q:(x == y) = false:=by simp [this]
      rw [List.lookup_cons,q]
      exact lookup_mem hn.2 hm
theorem fst_zip_sub {β:Type}:∀ (a:List Str) (b:List β),List.Sublist ((a.zip b).map (·.1)) a
  | [],_ => by simp
  | x :: a,[] => by simp
  | x :: a,y :: b => by
    rw [List.zip_cons_cons,List.map_cons]
    exact (fst_zip_sub a b).cons_cons x
theorem lookup_zip {names:List Str} (hnd:names.Nodup):∀ {vals:List Value} {i:Nat} {x:Str} {v:Value},names[i]? = some x -> vals[i]? = some v -> (names.zip vals).reverse.lookup x = some v:=by
  intro vals i x v h1 h2
  have hm:(x,v) ∈ (names.zip vals).reverse:=by
    rw [List.mem_reverse]
    exact List.mem_of_getElem? (i:=i) (by rw [List.getElem?_zip_eq_some];exact ⟨h1,h2⟩)
  have hn:((names.zip vals).reverse.map (·.1)).Nodup:=by
    rw [List.map_reverse]
    refine List.pairwise_reverse.mpr (List.Pairwise.imp (fun h=>Ne.symm h) ?_)
    exact List.Pairwise.sublist (fst_zip_sub names vals) hnd
  exact lookup_mem hn hm
theorem AOk.deep {n:Nat} {c:Cx} {A:Around} (h:AOk (n + 1) c A) {env:Env} {c':Cx} (hc:c'.stack = env :: c.stack):AOk n c' (A.deeper env) :=
  (xI0_3 (by rw [hc];exact Around.frames_deeper h.1) h.2.1 (by have:=h.2.2.1;show A.depth + 1 + 4 * n <= 980;exact oA182 this) (by have:=h.2.2.2;show A.units + 3 + 60 * n <= 9800;lia))
theorem body_ends {n:Nat} {c c':Cx} {A:Around} {o o':Org} {H:MH} {ls:List V} {s:Shared} {Q:QV} {X:XP} (C:CxOk G c) (C':CxOk G c') (hA:AOk (n + 1) c A) (x:St G c o H ls s) (hk:∀ b y,s.heap.get? b = some y -> o'.h.get? b = some y) (ho':o'.H = H)
    {L:Addr} (hL:s.heap.get? L = none) (hst:c'.stack = c'.env :: c.stack) (hLe:c'.env.frame = some L) (hown':∀ b ∈ c'.own,s.heap.get? b = none) {body:List Stmt} {s₁:Shared}
    (h:wpAny (model G.prog G.w) (A.deeper c'.env) (execs body c'.env) (RF G c' o' (fun zz H'=>Q .none H') Q) (PXs G c' o' X) s₁) :
    wpAny (model G.prog G.w) (A.deeper c'.env) (execs body c'.env) (fun f s'=>RC G c o ls Q X (.ok (.ret (match f with | .ret v=>v | _=>.none))) s')
      (fun e s'=>wpAny (model G.prog G.w) (A.deeper c'.env) (leaving c'.env e) (fun zz s''=>RC G c o ls Q X (.error e) s'') (fun e' s''=>RC G c o ls Q X (.error e') s'') s') s₁:=by
  have hfrm:c'.frames = L :: c.frames:=by unfold Cx.frames;rw [hst,List.filterMap_cons,hLe]
  have hfr:∀ b ∈ c.frames,b ∈ c'.frames /\ b ∉ c'.own:=fun b hb=>⟨by rw [hfrm];exact .tail _ hb,fun q=>by
    refine xA0_1 (funFrames_mem x.fr hb) ?_;intro _ hT1;refine xA1_1 hT1 ?_;(try clear hT1);intro ob e _
    rw [hown' b q] at e;cases e⟩
  have hfr':∀ b ∈ c'.frames,b ∈ c.frames ∨ s.heap.get? b = none:=fun b hb=>by
    rw [hfrm] at hb
    rcases List.mem_cons.mp hb with rfl | hb
    · exact .inr hL
    · exact .inl hb
  have tl:∀ {h:Heap},h.FunFrames G.h₀ c'.stack -> h.FunFrames G.h₀ c.stack:=fun h=>by rw [hst] at h;exact h.2.2
  refine wpAny_mono h (fun f s' hf=>?_) fun e s' hx=>?_
  · cases f with
    | next => obtain ⟨ls',H',hs',hq⟩ := hf;exact (xI1_1 H' (x.back C hk ho' hfr hfr' hown' tl hs') hq)
    | ret v => obtain ⟨ls',H',hs',hq⟩ := hf;exact (xI1_1 H' (x.back C hk ho' hfr hfr' hown' tl hs') hq)
    | brk => exact hf.elim
    | cont => exact hf.elim
  · refine xA4_3 hx ?_;(try clear hx);intro ls' ea Cl H' hT1;subst hT1;intro hs' hX hfl
    have hA':(A.deeper c'.env).frames = some c'.stack:=by rw [hst];exact Around.frames_deeper hA.1
    refine wpAny_mono (leave_ok C' hA' hst hLe hs' hfl) (fun zz s'' hF1=>xA0_1 hF1 fun hs'' hfl''=>?_) fun zz zz e=>e
    refine (xI3_3 ea Cl H' rfl (x.back C hk ho' hfr hfr' hown' tl hs'') hX ?_)
    refine xA6_10 hfl'' ?_;(try clear hfl'');intro oe vs a0 T oT ts h1 h2 h3 h4 h5 h6 h7 h8 h9 h10 h11
    exact (xI3_5 oe vs a0 h1 h2 h3 h4 (New.back x hk (fun b hb=>(hfr b hb).1) h5) (.inr (xI3_5 T oT ts h6 h7 (New.back x hk (fun b hb=>(hfr b hb).1) h8) h9 h10 (.inl h11))))
theorem len_ls {vals:List Value} {m k:Nat} {i:Nat} {v:V} (hk:vals.length = k) (h:(vals.map er ++ List.replicate m V.unb)[i]? = some v) (hv:v ≠ .unb):i < k /\ ∃ u,vals[i]? = some u /\ er u = v:=by
  by_cases q:i < k
  · refine ⟨q,?_⟩
    rw [List.getElem?_append_left (by rw [List.length_map,hk];exact q),List.getElem?_map] at h
    refine xA1_1 (Option.map_eq_some_iff.mp h) ?_;intro u h1 h2
    exact (xI1_1 u h1 h2)
  · exfalso
    rw [List.getElem?_append_right (by rw [List.length_map,hk];exact oA269 q)] at h
    have:=List.mem_of_getElem? h
    rw [List.mem_replicate] at this
    exact hv this.2
theorem cxP_ok {qual:Str} {scope:Scope} {fa:Addr} {cdv:Value} {names:List Str} {L:Addr} {stack:List Env} (hnd:names.Nodup) (hcell:∀ x ∈ scope.names,x.2 ≠ .cell) (hk:scope.kind = .function) (hP:L ≠ G.P):CxOk G (cxP qual scope fa cdv names L stack) where
  kind:=hk
  glob:=rfl
  blt:=rfl
  nodup:=hnd
  loc:=List.mem_singleton.mpr rfl
  cells:=fun x ca zz h=>by cases h
  apart:=fun x y ca h=>by cases h
  frame:=(xI1_1 L rfl (xI2_1 _ _ rfl rfl))
  noP:=fun q=>hP (List.mem_singleton.mp q).symm
theorem fn_plain (GO:GlOk G) {fa:Addr} {name qual:Str} {params:Arguments} {body:List Stmt} {scope:Scope} {dV kV doc pm:Value} {an:Option Addr} {cdv ct:Value} (F:FnRec G fa name qual params body scope dV kV doc pm an cdv ct)
    {names:List Str} {k m n:Nat} {wb:WS} {w:List V -> WV} (hcell:∀ x ∈ scope.names,x.2 ≠ .cell) (hnd:names.Nodup) (hlen:names.length = k + m) (hall:∀ x ∈ names,scope.names.lookup x = some .local)
    (hbind:∀ (s:Shared) args Q X H,G.h₀.StaysIn s.heap -> w (args.map er) Q X H -> ∃ vals,vals.length = k /\ BindsTo s (fnX name qual params body scope [] dV kV doc pm an cdv ct) ⟨args,[]⟩ (names.zip vals) /\ fnW wb m (vals.map er) Q X H)
    (hb:∀ L st,CxOk G (cxP qual scope fa cdv names L st) -> SB G (cxP qual scope fa cdv names L st) n body wb)
    (hco:scope.isCoroutine = false:=by rfl) (hgen:scope.isGenerator = false:=by rfl) (hk:scope.kind = .function:=by rfl):FnOk G (n + 1) (.ref fa) w:=by
  intro c A o s H ls Q X args C hA hs hw
  refine xA3_0 F.obj ?_;intro oc od sl ho
  refine xA1_2 (hbind s args Q X H hs.base hw) ?_;intro vals hv hbi hfn
  have hroom:A.depth < recursionLimit:=by have:=hA.2.2.1;show A.depth < 1000;exact oA183 this
  refine codeAny_call_def hroom (hs.base _ _ ho) rfl (GO.nolimit.keeps hs.base) (F.code.keeps hs.base) rfl hbi hcell (fun x hx=>hall x.1 (List.of_mem_zip hx).1) (fun h₁ hns hk₁=>?_) hco hgen hk
  have hLs:s.heap.get? s.heap.objs.size = none:=by
    cases q:s.heap.get? s.heap.objs.size with
    | none => rfl
    | some y => exact absurd (Heap.lt_size q) (Nat.lt_irrefl _)
  refine xA0_5 (hs.fresh hLs) ?_;intro f1 f2 f3 f4 f5 f6
  have C':CxOk G (cxP qual scope fa cdv names s.heap.objs.size c.stack):=cxP_ok hnd hcell hk f3
  have hnow:∀ b y,s.heap.get? b = some y -> b ≠ s.heap.objs.size:=fun b y e q=>by rw [q,hLs] at e;cases e
  refine xA3_3 (id hns) ?_;intro ol es ep n1 n2 n3 n4
  have s':St G (cxP qual scope fa cdv names s.heap.objs.size c.stack) ⟨H,h₁⟩ H (vals.map er ++ List.replicate m .unb) { s with heap:=h₁,toks:=s.toks + (names.zip vals).length }:=by
    refine ⟨hs.gens,hs.os,fun b y e=>hk₁ b y (hs.base b y e),fun a mm e=>?_,fun a ha=>?_,fun x ca e=>(nomatch e),hs.tab.keeps hk₁,⟨⟨_,hns,fun i x v hi zz hv' hne=>?_⟩,fun i x hi hx=>?_⟩,?_,⟨fun b y e zz zz zz zz=>e,fun b y e zz zz=>⟨y.slots,e⟩,fun b y zz e=>e,fun b y e=>⟨y,e⟩⟩⟩
    · refine xA0_4 (hs.own a mm e) ?_;intro h1 h2 h3 h4 hT1;refine xA1_1 hT1 ?_;(try clear hT1);intro ob h5 h6
      have hne:=hnow a ob h5
      exact (xI0_4 h1 h2 (fun q=>hne (List.mem_singleton.mp q)) (fun q=>(List.mem_cons.mp q).elim hne h4) (xI1_1 ob (hk₁ _ _ h5) h6))
    · rw [List.mem_singleton.mp ha]
      exact ⟨f2,⟨ ol,n1⟩⟩
    · refine xA0_1 (len_ls hv hv' hne) ?_;intro hi' hT1;refine xA1_1 hT1 ?_;(try clear hT1);intro u h1 h2
      exact (xI1_1 u (lookup_zip hnd hi h1) h2)
    · exact (hx (hall x (List.mem_of_getElem? hi))).elim
    · exact Heap.FunFrames.cons (by show scope.kind ≠ _;rw [hk];decide) rfl hns f2 (hs.fr.of_keeps fun b y e zz=>(xI1_1 y (hk₁ b y e) rfl))
  have:=hb s.heap.objs.size c.stack C' (A.deeper (cxP qual scope fa cdv names s.heap.objs.size c.stack).env) ⟨H,h₁⟩ _ H _ (fun zz H'=>Q .none H') Q X (hA.deep rfl) s' hfn
  exact body_ends (o':=⟨H,h₁⟩) C C' hA hs hk₁ rfl hLs rfl rfl (fun b hb=>by rw [List.mem_singleton.mp hb];exact hLs) this
theorem bindL_not {kindOf:Str -> Option NameKind} {x:Str}:∀ (binds:List (Str × Value)) (m:Str -> Option Value),x ∉ binds.map (·.1) -> bindL kindOf binds m x = m x
  | [],_,_ => rfl
  | (y,u) :: r,m,h => by
    rw [List.map_cons,List.mem_cons,not_or] at h
    unfold bindL
    rw [bindL_not r _ h.2]
    split
    · exact if_neg h.1
    · rfl
theorem bindL_mem {kindOf:Str -> Option NameKind} {x:Str} {v:Value} (hk:kindOf x = some .local):∀ (binds:List (Str × Value)) (m:Str -> Option Value),(binds.map (·.1)).Nodup -> (x,v) ∈ binds -> bindL kindOf binds m x = some v
  | (y,u) :: r,m,hn,hm => by
    rw [List.map_cons,List.nodup_cons] at hn
    unfold bindL
    rcases List.mem_cons.mp hm with e | hm
    · cases e
      rw [bindL_not r _ hn.1,if_pos hk]
      exact if_pos rfl
    · exact bindL_mem hk r _ hn.2 hm
theorem bindC_not {kindOf:Str -> Option NameKind} {x:Str}:∀ (binds:List (Str × Value)) (m:Str -> Option Value),x ∉ binds.map (·.1) -> bindC kindOf binds m x = m x
  | [],_,_ => rfl
  | (y,u) :: r,m,h => by
    rw [List.map_cons,List.mem_cons,not_or] at h
    unfold bindC
    rw [bindC_not r _ h.2]
    split
    · rfl
    · exact if_neg h.1
theorem bindC_mem {kindOf:Str -> Option NameKind} {x:Str} {v:Value} (hk:kindOf x ≠ some .local):∀ (binds:List (Str × Value)) (m:Str -> Option Value),(binds.map (·.1)).Nodup -> (x,v) ∈ binds -> bindC kindOf binds m x = some v
  | (y,u) :: r,m,hn,hm => by
    rw [List.map_cons,List.nodup_cons] at hn
    unfold bindC
    rcases List.mem_cons.mp hm with e | hm
    · cases e
      rw [bindC_not r _ hn.1,if_neg hk]
      exact if_pos rfl
    · exact bindC_mem hk r _ hn.2 hm
theorem zip_mem {names:List Str} {vals:List Value} {i:Nat} {x:Str} {v:Value} (h1:names[i]? = some x) (h2:vals[i]? = some v):(x,v) ∈ names.zip vals :=
  List.mem_of_getElem? (i:=i) (by rw [List.getElem?_zip_eq_some];exact ⟨h1,h2⟩)
theorem fn_cells (GO:GlOk G) {fa:Addr} {name qual:Str} {params:Arguments} {body:List Stmt} {scope:Scope} {dV kV doc pm:Value} {an:Option Addr} {cdv ct:Value} (F:FnRec G fa name qual params body scope dV kV doc pm an cdv ct)
    {names:List Str} {k m n:Nat} {wb:WS} {w:List V -> WV} (hnd:names.Nodup) (hlen:names.length = k + m) (hall:∀ x ∈ names,scope.names.lookup x = some .local ∨ scope.names.lookup x = some .cell)
    (hcn:((cellsFrom 0 scope.names []).map (·.1)).Nodup)
    (hbind:∀ args Q X H,w (args.map er) Q X H -> ∃ vals,vals.length = k /\ bindArgs (fnX name qual params body scope [] dV kV doc pm an cdv ct) ⟨args,[]⟩ = pure (names.zip vals) /\ fnW wb m (vals.map er) Q X H)
    (hb:∀ L st,CxOk G (cxC qual scope fa cdv names L st) -> SB G (cxC qual scope fa cdv names L st) n body wb)
    (hco:scope.isCoroutine = false:=by rfl) (hgen:scope.isGenerator = false:=by rfl) (hk:scope.kind = .function:=by rfl):FnOk G (n + 1) (.ref fa) w:=by
  intro c A o s H ls Q X args C hA hs hw
  refine xA3_0 F.obj ?_;intro oc od sl ho
  refine xA1_2 (hbind args Q X H hw) ?_;intro vals hv hbi hfn
  have hroom:A.depth < recursionLimit:=by have:=hA.2.2.1;show A.depth < 1000;exact oA183 this
  have fresh:∀ b,s.heap.objs.size <= b -> s.heap.get? b = none:=fun b hb=>by
    cases q:s.heap.get? b with
    | none => rfl
    | some y => exact absurd (Heap.lt_size q) (Nat.not_lt.mpr hb)
  have hkind:∀ x ∈ names.zip vals,scope.names.lookup x.1 = some .local ∨ (scope.names.lookup x.1 = some .cell /\ ((cellsFrom (s.heap.objs.size + 1) scope.names []).lookup x.1).isSome = true):=fun x hx=>by
    rcases hall x.1 (List.of_mem_zip hx).1 with h | h
    · exact .inl h
    · exact .inr ⟨h,cellsFrom_some _ _ _ (.inl h)⟩
  refine codeAny_call_cells hroom (hs.base _ _ ho) rfl (GO.nolimit.keeps hs.base) (F.code.keeps hs.base) rfl hbi rfl hkind (fun s₁ x=>?_) hco hgen hk
  refine xA2_1 x.done ?_;intro h₁ tk hT1;subst hT1;intro hk₁
  have hns:=x.toInCall.ns
  have hcell:=x.cell
  have habove:=x.above
  have hapart:=x.apart
  have hcnL:((cellsFrom (s.heap.objs.size + 1) scope.names []).map (·.1)).Nodup:=cellsFrom_names scope.names 0 (s.heap.objs.size + 1) [] [] rfl ▸ hcn
  have hLs:s.heap.get? s.heap.objs.size = none:=fresh _ (Nat.le_refl _)
  refine xA0_5 (hs.fresh hLs) ?_;intro f1 f2 f3 f4 f5 f6
  have hnow:∀ b y,s.heap.get? b = some y -> b < s.heap.objs.size:=fun b y e=>Heap.lt_size e
  have hown:∀ b ∈ (cxC qual scope fa cdv names s.heap.objs.size c.stack).own,s.heap.objs.size <= b:=fun b hb=>by
    rcases List.mem_cons.mp hb with rfl | hb
    · exact Nat.le_refl _
    · refine xA1_1 (List.mem_map.mp hb) ?_;intro p hp hT1;subst hT1
      exact Nat.le_of_lt (habove p.1 p.2 hp)
  have hfrout:∀ b ∈ c.frames,b < s.heap.objs.size:=fun b hb=>by
    refine xA0_1 (funFrames_mem hs.fr hb) ?_;intro _ hT1;refine xA1_1 hT1 ?_;(try clear hT1);intro ob e _
    exact Heap.lt_size e
  have C':CxOk G (cxC qual scope fa cdv names s.heap.objs.size c.stack):=by
    refine ⟨hk,rfl,rfl,hnd,.head _,fun x ca zz h=>?_,fun x y ca h1 h2=>name_of_addr hapart (mem_of_lookup h1) (mem_of_lookup h2),(xI1_1 _ rfl (xI2_1 _ _ rfl rfl)),fun q=>?_⟩
    · have hm:=mem_of_lookup h
      have hlt:=habove x ca hm
      refine ⟨.tail _ (List.mem_map_of_mem (f:=(·.2)) hm),Nat.ne_of_gt hlt,fun q=>?_⟩
      rcases List.mem_cons.mp q with q | q
      · exact Nat.ne_of_gt hlt q
      · exact Nat.lt_irrefl _ (Nat.lt_trans hlt (hfrout ca q))
    · have:=fresh _ (hown _ q)
      refine xA1_1 hs.tab ?_;intro ps hP _
      rw [hP] at this;cases this
  refine xA3_3 (id hns) ?_;intro ol es ep n1 n2 n3 n4
  have kz:((names.zip vals).map (·.1)).Nodup:=List.Pairwise.sublist (fst_zip_sub names vals) hnd
  have s':St G (cxC qual scope fa cdv names s.heap.objs.size c.stack) ⟨H,h₁⟩ H (vals.map er ++ List.replicate m .unb) { s with heap:=h₁,toks:=tk }:=by
    refine ⟨hs.gens,hs.os,fun b y e=>hk₁ b y (hs.base b y e),fun a mm e=>?_,fun a ha=>?_,fun x ca e=>?_,hs.tab.keeps hk₁,⟨(xI1_1 _ hns (fun i x v hi hkx hv' hne=>?_)),fun i x hi hx=>?_⟩,?_,⟨fun b y e zz zz zz zz=>e,fun b y e zz zz=>⟨y.slots,e⟩,fun b y zz e=>e,fun b y e=>⟨y,e⟩⟩⟩
    · refine xA0_4 (hs.own a mm e) ?_;intro h1 h2 h3 h4 hT1;refine xA1_1 hT1 ?_;(try clear hT1);intro ob h5 h6
      have hlt:=hnow a ob h5
      exact (xI0_4 h1 h2 (fun q=>Nat.not_lt.mpr (hown a q) hlt) (fun q=>(List.mem_cons.mp q).elim (Nat.ne_of_lt hlt) h4) (xI1_1 ob (hk₁ _ _ h5) h6))
    · refine ⟨none_of_keeps hs.base (fresh a (hown a ha)),?_⟩
      rcases List.mem_cons.mp ha with rfl | ha
      · exact ⟨ol,n1⟩
      · refine xA1_1 (List.mem_map.mp ha) ?_;intro p hp hT1;subst hT1
        refine xA1_1 (hcell p.1 p.2 (lookup_mem hcnL hp)) ?_;intro oc h1 _
        exact ⟨oc,h1⟩
    · refine xA1_1 (hcell x ca e) ?_;intro oc h1 _
      refine ⟨?_,⟨ oc,h1⟩⟩
      exact (hs.fresh (fresh ca (Nat.le_of_lt (habove x ca (mem_of_lookup e))))).1
    · refine xA0_1 (len_ls hv hv' hne) ?_;intro hi' hT1;refine xA1_1 hT1 ?_;(try clear hT1);intro u h1 h2
      exact (xI1_1 u (bindL_mem hkx _ _ kz (zip_mem hi h1)) h2)
    · have hc:scope.names.lookup x = some .cell:=(hall x (List.mem_of_getElem? hi)).elim (fun h=>(hx h).elim) id
      refine xA1_0 (Option.isSome_iff_exists.mp (cellsFrom_some scope.names (s.heap.objs.size + 1) [] (.inl hc))) ?_;intro ca hca
      refine (xI2_2 ca _ hca (hcell x ca hca) (fun v hv' hne=>?_))
      refine xA0_1 (len_ls hv hv' hne) ?_;intro hi' hT1;refine xA1_1 hT1 ?_;(try clear hT1);intro u h1 h2
      exact (xI1_1 u (bindC_mem hx _ _ kz (zip_mem hi h1)) h2)
    · exact Heap.FunFrames.cons (by show scope.kind ≠ _;rw [hk];decide) rfl hns f2 (hs.fr.of_keeps fun b y e zz=>(xI1_1 y (hk₁ b y e) rfl))
  have:=hb s.heap.objs.size c.stack C' (A.deeper (cxC qual scope fa cdv names s.heap.objs.size c.stack).env) ⟨H,h₁⟩ _ H _ (fun zz H'=>Q .none H') Q X (hA.deep rfl) s' hfn
  exact body_ends (o':=⟨H,h₁⟩) C C' hA hs hk₁ rfl hLs rfl rfl (fun b hb=>fresh b (hown b hb)) this
end
section
variable {G:Gl}
noncomputable def newW (C:Addr) (wi:List V -> WV) (vals:List V):WV:=fun Q X H=>∀ dx x,H dx = none -> H x = none -> x ≠ dx -> wi (.ref x :: vals) (fun v H'=>v = .none /\ Q (.ref x) H') X (upd (upd H dx (.attrs [])) x (.inst C dx))
theorem AOk.made {n:Nat} {c:Cx} {A:Around} (h:AOk (n + 1) c A) (C:Addr) (rest:List Value):AOk n c (A.under (.builtin "type.__call__" ⟨.ref C :: rest,[]⟩)):=by
  refine (xI0_3 ?_ h.2.1 ?_ ?_)
  · show pushEnvs [] A.frames = _
    exact h.1
  · have:=h.2.2.1
    show A.depth + 1 + 4 * n <= 980
    exact oA182 this
  · have:=h.2.2.2
    have e:(Code.builtin "type.__call__" ⟨.ref C :: rest,[]⟩).cUnits <= 10:=by
      show _ <= 10
      exact (by decide:(1:Nat) <= 10)
    show A.units + (Code.builtin "type.__call__" ⟨.ref C :: rest,[]⟩).cUnits + 60 * n <= 9800
    exact oA289 this e
theorem fn_class (GO:GlOk G) {C fI:Addr} {n:Nat} {wi:List V -> WV} (hm:makesIn G.K C = true) (hi:findIn G.K (.ref C) "__init__" = some (some (.ref fI))) (hf:typeIn G.K (.ref fI) = some (.type "function")) (h:FnOk G n (.ref fI) wi) :
    FnOk G (n + 1) (.ref C) (newW C wi):=by
  intro c A o s H ls Q X args CO hA hs hw
  refine xA1_1 hs.frame.loc ?_;intro m hn _
  refine make_K (St.frE CO hn) (news_rest s.heap [c.env.locals] (.head _)) (GO.kin.keeps hs.base) hm hi hf fun x dx h' F' N' hlt hxd=>?_
  have hx:=N' (x,_) (.head _)
  have hdx:=N' (dx,_) (.tail _ (.head _))
  have none_at:∀ b,b ≠ c.env.locals -> (∀ p ∈ rest s.heap [c.env.locals],p.1 < b) -> s.heap.get? b = none:=fun b hb hl=>by
    cases q:s.heap.get? b with
    | none => rfl
    | some y => exact absurd (hl (b,y) (mem_rest.mpr ⟨q,by simpa using hb⟩)) (Nat.lt_irrefl _)
  have nd:=none_at dx hdx.2.1 hlt
  have nx:=none_at x hx.2.1 fun p hp=>Nat.lt_trans (hlt p hp) hxd
  have hk:∀ b y,s.heap.get? b = some y -> b ≠ c.env.locals -> h'.get? b = some y:=fun b y e hb=>(N' (b,y) (.tail _ (.tail _ (mem_rest.mpr ⟨e,by simpa using hb⟩)))).1
  have hL:∀ m,s.heap.Ns c.env.locals m -> h'.Ns c.env.locals m:=fun m2 hm2=>by
    have:m2 = m:=by
      refine xA3_3 hm2 ?_;(try clear hm2);intro o1 es1 ep1 a1 a2 a3 a4
      refine xA3_3 hn ?_;(try clear hn);intro o2 es2 ep2 b1 b2 b3 b4
      rw [a1] at b1;cases b1;rw [a2] at b2;cases b2
      funext x;rw [<- a4,<- b4]
    rw [this];exact F'.ns
  have hne:x ≠ dx:=Nat.ne_of_gt hxd
  have s1:St G c o (upd (upd H dx (.attrs [])) x (.inst C dx)) ls { s with heap:=h' }:=by
    refine hs.gen CO (fun b y e zz hb=>hk b y e hb) hL (fun a mm e=>?_) (fun b hb=>?_) rfl rfl
    · by_cases q:a = x
      · subst q;rw [upd_self] at e;cases e
        exact ⟨.inr nx,(xI1_1 _ hx.1 rfl)⟩
      · rw [upd_ne _ _ q] at e
        by_cases q2:a = dx
        · subst q2;rw [upd_self] at e;cases e
          exact ⟨.inr nd,(xI1_1 _ hdx.1 (xI2_1 [] 0 rfl (.nil)))⟩
        · rw [upd_ne _ _ q2] at e
          refine xA1_1 (hs.live e) ?_;intro ob h1 h2
          exact ⟨.inl (by rw [e];exact fun q=>nomatch q),(xI1_1 ob (hk a ob h1 (fun q=>(hs.own a mm e).2.2.1 (q ▸ CO.loc))) h2)⟩
    · refine xA1_0 (Option.ne_none_iff_exists'.mp hb) ?_;intro mm e
      refine xA1_1 (hs.live e) ?_;intro ob h1 h2
      exact ⟨ob,hk b ob h1 (fun q=>(hs.own b mm e).2.2.1 (q ▸ CO.loc))⟩
  have z:=h c _ o { s with heap:=h' } _ ls _ X (.ref x :: args) CO (hA.made C args) s1 (hw dx x (hs.fresh nd).1 (hs.fresh nx).1 hne)
  refine codeAny_mono z fun r s' hr=>?_
  cases r with
  | error e => exact hr
  | ok f =>
    cases f with
    | ret v =>
      refine xA1_2 hr ?_;(try clear hr);intro H' g1 g2 g3
      exact ⟨er_none g2,(xI1_1 H' g1 g3)⟩
    | next => exact hr.elim
    | brk => exact hr.elim
    | cont => exact hr.elim
end
section
variable {G:Gl} {c:Cx} {n:Nat}
theorem New.later {o:Org} {H H':MH} {ls ls':List V} {s s':Shared} {b:Addr} (x:St G c o H ls s) (y:St G c (here H s) H' ls' s') (hn:New G c o H s.heap b) (hlive:∃ z,s.heap.get? b = some z) (hnc:∀ q,¬ s'.heap.CodeRec (.ref b) q):New G c o H' s'.heap b:=by
  refine xA1_0 hlive ?_;(try clear hlive);intro z hz
  refine ⟨hn.base,y.tr.claim b z hz hn.H,hn.P,hn.own,hn.frm,hn.org,hn.cell,fun ps hp p hpm q=>?_⟩
  refine xA1_2 y.tab ?_;intro ps' h1 h2 h3
  rw [hp] at h1;cases h1
  exact hnc _ (h3 p hpm _ q)
theorem kept_new {o:Org} {H H':MH} {ls':List V} {s s':Shared} {b:Addr} (y:St G c (here H s) H' ls' s') (hn:New G c o H s.heap b) {z:Obj} (hz:s.heap.get? b = some z):s'.heap.get? b = some z :=
  y.tr.keep b z hz hn.H hn.P hn.own hn.frm
noncomputable def Kept (G:Gl) (c:Cx) (l:List Addr) (H:MH) (s:Shared) (H':MH) (s':Shared):Prop:=∀ b y,s.heap.get? b = some y -> H b = none -> b ≠ G.P -> b ∉ c.own -> b ∉ c.frames -> b ∉ l -> s'.heap.get? b = some y /\ H' b = none
theorem kept_of {l:List Addr} {H H':MH} {s s1 s2:Shared} (h1:∀ b y,s.heap.get? b = some y -> b ∉ l -> s1.heap.get? b = some y) (h2:Kept G c [] H s1 H' s2):Kept G c l H s H' s2 :=
  fun b y e k1 k2 k3 k4 k5=>h2 b y (h1 b y e k5) k1 k2 k3 k4 (fun h=>nomatch h)
theorem kept_st {o:Org} {H H':MH} {ls':List V} {s s':Shared} (y:St G c (here H s) H' ls' s'):Kept G c [] H s H' s':=fun b z e k1 k2 k3 k4 zz=>⟨y.tr.keep b z e k1 k2 k3 k4,y.tr.claim b z e k1⟩
theorem kept_hid {l:List Addr} {H:MH} {s s1:Shared} (h1:∀ b y,s.heap.get? b = some y -> b ∉ l -> s1.heap.get? b = some y):Kept G c l H s H s1:=fun b y e k1 zz zz zz k5=>⟨h1 b y e k5,k1⟩
theorem Kept.trans {l:List Addr} {H H1 H2:MH} {s s1 s2:Shared} (x:Kept G c l H s H1 s1) (y:Kept G c l H1 s1 H2 s2):Kept G c l H s H2 s2:=fun b z e k1 k2 k3 k4 k5=>let ⟨e1,k⟩:=x b z e k1 k2 k3 k4 k5;y b z e1 k k2 k3 k4 k5
structure IterOk (G:Gl) (c:Cx) (n:Nat) (target:Expr) (it:Value) {ι:Type} (l:List Addr) (Src:List ι -> Heap -> Prop) (guard:MH -> Prop) (aw:ι -> List V -> QL -> MH -> Prop):Prop where
  keep:∀ xs h h',Src xs h -> (∀ b ∈ l,∀ y,h.get? b = some y -> h'.get? b = some y) -> Src xs h'
  live:∀ xs h,Src xs h -> ∀ b ∈ l,∃ y,h.get? b = some y
  nocode:∀ xs h,Src xs h -> ∀ b ∈ l,∀ q,¬ h.CodeRec (.ref b) q
  fin:∀ A o s H ls E,AOk n c A -> St G c o H ls s -> (∀ b ∈ l,New G c o H s.heap b) -> guard H -> Src [] s.heap -> wpAny (model G.prog G.w) A (pyNext it) (fun r s'=>r = none /\ St G c o H ls s' /\ Kept G c l H s H s') E s
  turn:∀ A o s H ls Qn E x xs,AOk n c A -> St G c o H ls s -> (∀ b ∈ l,New G c o H s.heap b) -> guard H -> Src (x :: xs) s.heap -> aw x ls Qn H ->
    wpAny (model G.prog G.w) A (pyNext it) (fun r s₁=>∃ v,r = some v /\ wpAny (model G.prog G.w) A (letOwnedTupleGo target it v) (fun zz s₁'=>wpAny (model G.prog G.w) A (assign target c.env v) (fun zz s₂ =>
      ∃ ls' H',St G c o H' ls' s₂ /\ (∀ b ∈ l,New G c o H' s₂.heap b) /\ Src xs s₂.heap /\ Kept G c l H s H' s₂ /\ Qn ls' H') E s₁') E s₁) E s
noncomputable def forW {ι:Type} (guard:MH -> Prop) (aw:ι -> List V -> QL -> MH -> Prop) (b:WS):List ι -> WS
  | [] => fun ls Qn zz zz H => guard H /\ Qn ls H
  | x :: xs => fun ls Qn Qr X H => guard H /\ aw x ls (fun ls' H' => b ls' (fun ls'' H'' => forW guard aw b xs ls'' Qn Qr X H'') Qr X H') H
noncomputable def PXh (G:Gl) (c:Cx) (o:Org) (X:XP) (e:Value) (s':Shared):Prop:=∃ ls ea C H' L,e = .ref ea /\ c.env.frame = some L /\ St G c o H' ls s' /\ X C H' /\ FlightAt G c o H' ea C (rawInt L) s'.heap
noncomputable def RFh (G:Gl) (c:Cx) (o:Org) (Qn:QL) (Qr:QV) (X:XP) (r:Result) (s':Shared):Prop:=match r with
  | .ok f => RF G c o Qn Qr f s'
  | .error e => PXh G c o X e s'
theorem noted_ok (CO:CxOk G c) {outer:List Env} (hst:c.stack = c.env :: outer) {A:Around} {o:Org} {X:XP} (hA:A.frames = some c.stack) {e:Value} {s:Shared} (h:PXs G c o X e s):notedBy (model G.prog G.w) A c.env (fun e s'=>PXh G c o X e s') e s:=by
  refine xA4_3 h ?_;(try clear h);intro ls ea C H' hT1;subst hT1;intro hs hX hf
  refine xA1_1 CO.frame ?_;intro L hL _
  exact wpAny_mono (note_ok CO hA hst hL hs hf) (fun zz s' hF1=>xA0_1 hF1 fun h1 h2=>(xI5_4 ls ea C H' L rfl hL h1 hX h2)) fun zz zz e=>e
theorem came_ok (CO:CxOk G c) {A:Around} {o:Org} {X:XP} {e:Value} {s:Shared} (h:PXh G c o X e s):cameBackBy (model G.prog G.w) A c.env (PXs G c o X) e s:=by
  refine xA5_0 h ?_;(try clear h);intro ls ea C H' L hT1;refine xA0_4 hT1 ?_;(try clear hT1);intro hT2;subst hT2;intro hL hs hX hf
  exact wpAny_mono (cameBack_ok CO hL hX hs hf) (fun zz s' h=>⟨ls,h⟩) fun zz zz h=>⟨ls,h⟩
theorem PXs.trans {o:Org} {X:XP} {H:MH} {ls:List V} {s s':Shared} {e:Value} (x:St G c o H ls s) (h:PXs G c (here H s) X e s'):PXs G c o X e s':=by
  refine xA4_3 h ?_;(try clear h);intro ls' ea C H' hT1;subst hT1;intro hs hX hf
  exact (xI4_3 ls' ea C H' rfl (x.trans hs) hX (hf.trans x))
theorem for_core (CO:CxOk G c) {outer:List Env} (hst:c.stack = c.env :: outer) {target:Expr} {it:Value} {ι:Type} {l:List Addr} {Src:List ι -> Heap -> Prop} {guard:MH -> Prop} {aw:ι -> List V -> QL -> MH -> Prop} (I:IterOk G c n target it l Src guard aw)
    {body:List Stmt} {wb:WS} (hb:SB G c n body wb) {A:Around} {o:Org} {s:Shared} {H:MH} {ls:List V} {Qn:QL} {Qr:QV} {X:XP} {xs:List ι} (hA:AOk n c A) (hs:St G c o H ls s) (hn:∀ b ∈ l,New G c o H s.heap b) (hsrc:Src xs s.heap) (h:forW guard aw wb xs ls Qn Qr X H) :
    codeAny (model G.prog G.w) A (.forLoop target it body [] c.env) (RFh G c o Qn Qr X) s:=by
  refine codeAny_forLoop_any (fun k s=>∃ xs H ls,k = xs.length /\ St G c o H ls s /\ (∀ b ∈ l,New G c o H s.heap b) /\ Src xs s.heap /\ forW guard aw wb xs ls Qn Qr X H) ?_ xs.length (xI3_4 xs H ls rfl hs hn hsrc h)
  intro k s hT1;refine xA3_4 hT1 ?_;(try clear hT1);intro xs H ls hT2;subst hT2;intro hs hn hsrc h
  cases xs with
  | nil =>
    refine wpAny_mono (I.fin A o s H ls _ hA hs hn h.1 hsrc) (fun r s' hF1=>xA0_2 hF1 fun h1 h2 zz=>?_) fun zz zz e=>e
    subst h1
    exact wpAny_execs_nil (xI2_1 ls H h2 h.2)
  | cons x xs =>
    refine wpAny_mono (I.turn A o s H ls _ _ x xs hA hs hn h.1 hsrc h.2) (fun r s1 hF1=>xA1_1 hF1 fun v h1 h2=>?_) fun zz zz e=>e
    subst h1
    refine wpAny_mono h2 (fun zz s1' h3=>wpAny_mono h3 (fun zz s2 hF1=>xA2_4 hF1 fun ls' H' hs2 hn2 hsrc2 zz h4=>?_) fun zz zz e=>e) fun zz zz e=>e
    refine wpAny_mono (hb A (here H' s2) s2 H' ls' _ Qr X hA hs2.rebase h4) (fun f s3 hf=>?_) fun e s3 he=>noted_ok CO hst hA.1 (he.trans hs2)
    cases f with
    | next =>
      refine xA2_1 hf ?_;(try clear hf);intro ls3 H3 hs3 h5
      have hk:∀ b ∈ l,∀ y,s2.heap.get? b = some y -> s3.heap.get? b = some y:=fun b hb y e=>kept_new hs3 (hn2 b hb) e
      have hsrc3:=I.keep xs _ _ hsrc2 hk
      exact (xI1_1 xs.length (by simp) (xI3_4 xs H3 ls3 rfl (hs2.trans hs3) (fun b hb=>(hn2 b hb).later hs2 hs3 (I.live _ _ hsrc2 b hb) (I.nocode _ _ hsrc3 b hb)) hsrc3 h5))
    | ret v =>
      refine xA2_1 hf ?_;(try clear hf);intro ls3 H3 hs3 h5
      exact (xI2_1 ls3 H3 (hs2.trans hs3) h5)
    | brk => exact hf.elim
    | cont => exact hf.elim
noncomputable def whileN (t:WT) (b:WS):Nat -> WS
  | 0 => fun zz zz zz zz zz => False
  | k + 1 => fun ls Qn Qr X H => t ls (fun v H1 => br v (b ls (fun ls' H' => whileN t b k ls' Qn Qr X H') Qr X H1) (Qn ls H1)) X H
noncomputable def sWhile (t:WT) (b:WS):WS:=fun ls Qn Qr X H=>∃ k,whileN t b k ls Qn Qr X H
theorem s_while (CO:CxOk G c) {outer:List Env} (hst:c.stack = c.env :: outer) {t:Expr} {b:List Stmt} {pos:Pos} {wt:WT} {wb:WS} (ht:ST G c n t wt) (hb:SB G c n b wb):SS G c n (.While t b [] pos) (sWhile wt wb):=fun A o s H ls Qn Qr X hA hs h=>by
  refine xA1_0 h ?_;(try clear h);intro k h
  refine wpAny_While ?_
  refine codeAny_mono (R:=RFh G c o Qn Qr X) (codeAny_whileLoop (fun k s=>∃ H ls,St G c o H ls s /\ whileN wt wb k ls Qn Qr X H) ?_ k (xI2_1 H ls hs h)) fun r s' hr=>?_
  · intro k s hT1;refine xA2_1 hT1 ?_;(try clear hT1);intro H ls hs h
    cases k with
    | zero => exact h.elim
    | succ k =>
      refine ht.go hA hs h (fun v s1 H1 hs1 h1=>?_) fun e s' he=>noted_ok CO hst hA.1 ⟨ls,he⟩
      cases v with
      | false => exact wpAny_execs_nil (xI2_1 ls H1 hs1 h1)
      | true =>
        refine wpAny_mono (hb A o s1 H1 ls _ Qr X hA hs1 (h1)) (fun f s2 hf=>?_) fun e s' he=>noted_ok CO hst hA.1 he
        cases f with
        | next =>
          refine xA2_1 hf ?_;(try clear hf);intro ls2 H2 hs2 h2
          exact (xI1_1 k (Nat.lt_succ_self _) (xI2_1 H2 ls2 hs2 h2))
        | ret v => exact hf
        | brk => exact hf.elim
        | cont => exact hf.elim
  · cases r with
    | ok f => exact hr
    | error e => exact came_ok CO hr
end
section
variable {G:Gl} {c:Cx} {n:Nat}
theorem St.hiddenN (C:CxOk G c) {o:Org} {H:MH} {ls:List V} {s s':Shared} (x:St G c o H ls s) {a:Addr} (hnew:New G c o H s.heap a) (hs:∀ b y,b ≠ a -> s.heap.get? b = some y -> s'.heap.get? b = some y) (hg:s'.gens = s.gens) (hos:s'.os = s.os):St G c o H ls s' /\ ∀ b,New G c o H s.heap b -> New G c o H s'.heap b:=by
  refine ⟨x.hidden C hnew hs hg hos,fun b hb=>hb.mono hb.H fun ps hp=>?_⟩
  refine xA1_1 x.tab ?_;intro ps' h1 _
  have:=hs _ _ (Ne.symm hnew.P) h1
  rw [hp] at this;cases this;exact h1
theorem store_item (CO:CxOk G c) {target:Expr} {w:V -> WS} (ha:SA G c n target w) {A:Around} {o:Org} {s:Shared} {H:MH} {ls:List V} {Qn:QL} {E:Value -> Shared -> Prop} {v:Value} {ι:Type} {l:List Addr} {Src:List ι -> Heap -> Prop} {xs:List ι}
    (keep:∀ h h',Src xs h -> (∀ b ∈ l,∀ y,h.get? b = some y -> h'.get? b = some y) -> Src xs h') (live:∀ h,Src xs h -> ∀ b ∈ l,∃ y,h.get? b = some y) (nocode:∀ h,Src xs h -> ∀ b ∈ l,∀ q,¬ h.CodeRec (.ref b) q)
    (hA:AOk n c A) (hs:St G c o H ls s) (hn:∀ b ∈ l,New G c o H s.heap b) (hsrc:Src xs s.heap) (h:w (er v) ls Qn (fun zz zz=>False) (fun zz zz=>False) H) :
    wpAny (model G.prog G.w) A (assign target c.env v) (fun zz s₂=>∃ ls' H',St G c o H' ls' s₂ /\ (∀ b ∈ l,New G c o H' s₂.heap b) /\ Src xs s₂.heap /\ Kept G c [] H s H' s₂ /\ Qn ls' H') E s:=by
  refine wpAny_mono (ha A (here H s) s H ls Qn (fun zz zz=>False) (fun zz zz=>False) v hA hs.rebase h) (fun zz s2 hF1=>xA2_1 hF1 fun ls' H' hs2 hq=>?_) fun e s' he=>?_
  · have hsrc2:=keep _ _ hsrc fun b hb y e=>kept_new hs2 (hn b hb) e
    exact (xI2_4 ls' H' (hs.trans hs2) (fun b hb=>(hn b hb).later hs hs2 (live _ hsrc b hb) (nocode _ hsrc2 b hb)) hsrc2 (kept_st (o:=o) hs2) hq)
  · refine xA4_3 he ?_;(try clear he);intro _ _ _ _ _ _ hx _
    exact hx.elim
noncomputable def lGuard (a:Addr) (all:List V) (H:MH):Prop:=H a = some (.list all)
noncomputable def LSrc (I a:Addr) (all:List V) (xs:List V) (h:Heap):Prop:=∃ i,h.IsListIter I a i /\ all.drop i = xs
noncomputable def aOf (w:V -> WS) (x:V) (ls:List V) (Q:QL) (H:MH):Prop:=w x ls Q (fun zz zz=>False) (fun zz zz=>False) H
theorem live_list {o:Org} {H:MH} {ls:List V} {s:Shared} (x:St G c o H ls s) {a:Addr} {xs:List V} (h:H a = some (.list xs)):∃ items,s.heap.IsList a items /\ items.toList.map er = xs:=by
  refine xA1_1 (x.live h) ?_;intro ob h1 hT1;refine xA2_1 hT1 ?_;(try clear hT1);intro items k hT2;subst hT2;intro h4
  exact (xI1_1 items (xI1_2 _ h1 rfl ⟨ k,rfl⟩) h4)
theorem live_listOf {o:Org} {H:MH} {ls:List V} {s:Shared} (x:St G c o H ls s) {a:Addr} {xs:List V} (h:H a = some (.list xs)):∃ items k,s.heap.get? a = some (listOf items k) /\ items.toList.map er = xs:=by
  refine xA1_1 (x.live h) ?_;intro ob h1 hT1;refine xA2_1 hT1 ?_;(try clear hT1);intro items k hT2;subst hT2;intro h4
  exact (xI2_1 items k h1 h4)
theorem live_tup {o:Org} {H:MH} {ls:List V} {s:Shared} (x:St G c o H ls s) {a:Addr} {xs:List V} (h:H a = some (.tup xs)):∃ items,IsTup s.heap a items /\ items.toList.map er = xs:=by
  refine xA1_1 (x.live h) ?_;intro ob h1 hT1;refine xA2_1 hT1 ?_;(try clear hT1);intro items k hT2;subst hT2;intro h4
  exact (xI1_1 items (xI1_2 _ h1 rfl ⟨ k,rfl⟩) h4)
theorem getElem_er {items:Array Value} {all:List V} (h:items.toList.map er = all) (i:Nat):(items[i]?).map er = all[i]?:=by
  rw [<- h,List.getElem?_map,Array.getElem?_toList]
theorem iter_list (CO:CxOk G c) {target:Expr} {w:V -> WS} (ha:SA G c n target w) {I a:Addr} {all:List V} (hgo:∀ (v:Value) (A:Around) (s:Shared) (i:Nat) (Q:Unit -> Shared -> Prop) (E:Value -> Shared -> Prop) (H:MH) (o:Org) (ls:List V),St G c o H ls s -> s.heap.IsListIter I a i -> aOf w (er v) ls (fun zz zz=>True) H -> Q () s -> wpAny (model G.prog G.w) A (letOwnedTupleGo target (.ref I) v) Q E s)
    (hmono:∀ x ls Q H,aOf w x ls Q H -> aOf w x ls (fun zz zz=>True) H):IterOk G c n target (.ref I) [I] (LSrc I a all) (lGuard a all) (aOf w) where
  keep:=fun xs h h' hF1 hk=>xA1_1 hF1 fun i hF2 h3=>xA1_1 hF2 fun ob h1 h2=>(xI1_1 i (xI1_1 ob (hk I (.head _) _ h1) h2) h3)
  live:=fun xs h hF1 b hb=>xA1_1 hF1 fun i hF2 zz=>xA1_1 hF2 fun ob h1 zz=>by rw [List.mem_singleton.mp hb];exact ⟨ob,h1⟩
  nocode:=fun xs h hF1 b hb q hc=>xA1_1 hF1 fun i hF2 zz=>xA1_2 hF2 fun ob h1 h2 h3=>by
    rw [List.mem_singleton.mp hb] at hc
    refine xA4_3 hc ?_;(try clear hc);intro ca oc vs t e1 e2 e3 e4
    cases e1
    rw [h1] at e2;cases e2
    rw [h3] at e3;cases e3
    cases e4
  fin:=fun A o s H ls E hA hs hn hg hF1=>xA1_1 hF1 fun i hit hd=>by
    refine xA1_1 (live_list hs hg) ?_;intro items hl he
    have hx:items[i]? = none:=by
      have:=getElem_er he i
      rw [List.getElem?_eq_none (by have h5:=congrArg List.length hd;rw [List.length_drop] at h5;simp only [List.length_nil] at h5;exact oA188 h5)] at this
      simpa using this
    exact wpAny_pyNext_list_end hA.2.1 hit hl hx fun h' hx'=>(xI0_2 rfl ((hs.hiddenN (s':={ s with heap:=h' }) CO (hn I (.head _)) (fun b y hb e=>hx' b y hb e) rfl rfl).1) (kept_hid fun b y e hb=>hx' b y (fun q=>hb (q ▸ .head _)) e))
  turn:=fun A o s H ls Qn E x xs hA hs hn hg hF1 h=>xA1_1 hF1 fun i hit hd=>by
    refine xA1_1 (live_list hs hg) ?_;intro items hl he
    have hxi:all[i]? = some x:=by
      have:(all.drop i)[0]? = some x:=by rw [hd];rfl
      simpa using this
    have hd':all.drop (i + 1) = xs:=by
      have:(all.drop i).drop 1 = xs:=by rw [hd];rfl
      rwa [List.drop_drop] at this
    have:=getElem_er he i
    rw [hxi] at this
    refine xA1_1 (Option.map_eq_some_iff.mp this) ?_;intro v hv hev
    refine wpAny_pyNext_list_item hit hl hv fun h' hit' hsb=>?_
    refine xA0_1 (hs.hiddenN (s':={ s with heap:=h' }) CO (hn I (.head _)) (fun b y hb e=>(hsb.2 b hb).trans e) rfl rfl) ?_;intro hs1 hn1
    refine (xI1_1 v rfl (hgo v A _ _ _ _ H o ls hs1 hit' (hev ▸ hmono _ _ _ _ h) ?_))
    refine wpAny_mono (store_item CO ha (Src:=LSrc I a all) (l:=[I]) (fun h h' hF1 hk=>xA1_1 hF1 fun i hF2 h3=>xA1_1 hF2 fun ob h1 h2=>(xI1_1 i (xI1_1 ob (hk I (.head _) _ h1) h2) h3)) (fun h hF1 b hb=>xA1_1 hF1 fun i hF2 zz=>xA1_1 hF2 fun ob h1 zz=>by rw [List.mem_singleton.mp hb];exact ⟨ob,h1⟩)
      (fun h hF1 b hb q hc=>xA1_1 hF1 fun i hF2 zz=>xA1_2 hF2 fun ob h1 h2 h3=>by
        rw [List.mem_singleton.mp hb] at hc
        refine xA4_3 hc ?_;(try clear hc);intro ca oc vs t e1 e2 e3 e4
        cases e1
        rw [h1] at e2;cases e2
        rw [h3] at e3;cases e3
        cases e4) hA hs1 (fun b hb=>hn1 b (hn b hb)) (xI1_1 _ hit' hd') (hev ▸ h)) (fun zz s2 hF1=>xA2_4 hF1 fun ls' H' g1 g2 g3 g4 g5=>(xI2_4 ls' H' g1 g2 g3 (kept_of (fun b y e hb=>(hsb.2 b (fun q=>hb (q ▸ .head _))).trans e) g4) g5)) fun zz zz e=>e
noncomputable def rangeL (step:Int):Nat -> Int -> List V
  | 0,_ => []
  | k + 1,x => .int x :: rangeL step k (x + step)
noncomputable def RSrc (I:Addr) (step:Int) (xs:List V) (h:Heap):Prop:=∃ (x:Int) (k:Nat),IsRangeIter h I x k step /\ xs = rangeL step k x
theorem rsrc_nocode {I:Addr} {step:Int} {xs:List V} {h:Heap} (x:RSrc I step xs h):∀ b ∈ [I],∀ q,¬ h.CodeRec (.ref b) q:=fun b hb q hc=>by
  refine xA2_1 x ?_;(try clear x);intro y k h1 _
  rw [List.mem_singleton.mp hb] at hc
  refine xA4_3 hc ?_;(try clear hc);intro ca oc vs t e1 e2 e3 e4
  cases e1
  rw [h1] at e2;cases e2
  cases e3
  cases e4
theorem iter_range (CO:CxOk G c) {target:Expr} {w:V -> WS} (ha:SA G c n target w) {I:Addr} {step:Int} (hgo:∀ v,letOwnedTupleGo target (.ref I) v = pure ()):IterOk G c n target (.ref I) [I] (RSrc I step) (fun zz=>True) (aOf w) where
  keep:=fun xs h h' hF1 hk=>xA2_1 hF1 fun x k h1 h2=>(xI2_1 x k (hk I (.head _) _ h1) h2)
  live:=fun xs h hF1 b hb=>xA2_1 hF1 fun x k h1 zz=>by rw [List.mem_singleton.mp hb];exact ⟨_,h1⟩
  nocode:=fun xs h hx=>rsrc_nocode hx
  fin:=fun A o s H ls E hA hs hn hg hF1=>xA2_1 hF1 fun x k h1 h2=>by
    cases k with
    | succ k => cases h2
    | zero => exact wpAny_pyNext_range_end hA.2.1 h1 (Int.le_refl _) fun h' hx' => (xI0_2 rfl ((hs.hiddenN (s' := { s with heap := h' }) CO (hn I (.head _)) (fun b y hb e => hx' b y hb e) rfl rfl).1) (kept_hid fun b y e hb => hx' b y (fun q => hb (q ▸ .head _)) e))
  turn:=fun A o s H ls Qn E x xs hA hs hn hg hF1 h=>xA2_1 hF1 fun y k h1 h2=>by
    cases k with
    | zero => cases h2
    | succ k =>
      refine xA0_1 (List.cons.inj h2) ?_;intro hT1;subst hT1;intro hT2;subst hT2
      refine wpAny_pyNext_range_item h1 (by exact oA54) fun h' hit' hsb=>?_
      refine xA0_1 (hs.hiddenN (s':={ s with heap:=h',toks:=s.toks + 1 }) CO (hn I (.head _)) (fun b y hb e=>(hsb.2 b hb).trans e) rfl rfl) ?_;intro hs1 hn1
      refine (xI1_1 _ rfl ?_)
      rw [hgo]
      refine wpAny_pure ?_
      refine wpAny_mono (store_item CO ha (Src:=RSrc I step) (l:=[I]) (fun h h' hF1 hk=>xA2_1 hF1 fun x k h1 h2=>(xI2_1 x k (hk I (.head _) _ h1) h2)) (fun h hF1 b hb=>xA2_1 hF1 fun x k h1 zz=>by rw [List.mem_singleton.mp hb];exact ⟨_,h1⟩) (fun h hx=>rsrc_nocode hx) hA hs1 (fun b hb=>hn1 b (hn b hb)) (xI2_1 _ k ?_ rfl) h) (fun zz s2 hF1=>xA2_4 hF1 fun ls' H' g1 g2 g3 g4 g5=>(xI2_4 ls' H' g1 g2 g3 (kept_of (fun b y e hb=>(hsb.2 b (fun q=>hb (q ▸ .head _))).trans e) g4) g5)) fun zz zz e=>e
      have e:((k + 1:Nat):Int) - 1 = k:=by exact oA47
      rw [e] at hit'
      exact hit'
end
noncomputable def aList:List (V -> WS) -> List V -> WS
  | [],[] => fun ls Qn zz zz H => Qn ls H
  | a :: as,v :: vs => fun ls Qn Qr X H => a v ls (fun ls' H' => aList as vs ls' Qn Qr X H') Qr X H
  | _,_ => fun zz zz zz zz zz => False
noncomputable def aTup (as:List (V -> WS)):V -> WS:=fun v ls Qn Qr X H=>onRef v fun t=>onTup (H t) fun vs=>aList as vs ls Qn Qr X H
section
variable {G:Gl} {c:Cx} {n:Nat}
inductive SAs (G:Gl) (c:Cx) (n:Nat):List Expr -> List (V -> WS) -> Prop
  | nil : SAs G c n [] []
  | cons {e : Expr} {a : V -> WS} {es : List Expr} {as : List (V -> WS)} : SA G c n e a -> SAs G c n es as -> SAs G c n (e :: es) (a :: as)
theorem as_len {es:List Expr} {as:List (V -> WS)} (h:SAs G c n es as):es.length = as.length:=by
  induction h with
  | nil => rfl
  | cons _ _ ih => simp [ih]
theorem aList_len:∀ {as:List (V -> WS)} {vs:List V} {ls:List V} {Qn:QL} {Qr:QV} {X:XP} {H:MH},(∀ a ∈ as,∀ v ls Qn Qr X H,a v ls Qn Qr X H -> ∃ ls' H',Qn ls' H') -> aList as vs ls Qn Qr X H -> as.length = vs.length
  | [],[],_,_,_,_,_,_,_ => rfl
  | a :: as,v :: vs,ls,Qn,Qr,X,H,hm,h => by
    refine xA2_0 (hm a (.head _) v ls _ Qr X H h) ?_;intro ls' H' h'
    have:=aList_len (fun b hb=>hm b (.tail _ hb)) h'
    simp [this]
  | [],_ :: _,_,_,_,_,_,_,h => h.elim
  | _ :: _,[],_,_,_,_,_,_,h => h.elim
theorem inOrder_ok {es:List Expr} {as:List (V -> WS)} (h:SAs G c n es as):∀ {vs:List Value} {A:Around} {o:Org} {s:Shared} {H:MH} {ls:List V} {Qn:QL} {Qr:QV} {X:XP},AOk n c A -> St G c o H ls s -> aList as (vs.map er) ls Qn Qr X H ->
    wpAny (model G.prog G.w) A (assignInOrder (es.map fun e=>assign e c.env) vs) (RU G c o Qn) (PXs G c o X) s:=by
  induction h with
  | nil =>
    intro vs A o s H ls Qn Qr X hA hs hw
    cases vs with
    | nil => exact wpAny_assignInOrder_none (xI2_1 ls H hs hw)
    | cons => exact hw.elim
  | cons ha _ ih =>
    intro vs A o s H ls Qn Qr X hA hs hw
    cases vs with
    | nil => exact hw.elim
    | cons v vs =>
      exact wpAny_assignInOrder_more (ha.go hA hs hw (fun zz s1 ls1 H1 hs1 h1=>ih hA hs1 h1) fun zz zz e=>e)
theorem star_none (es:List Expr) (env:Env):(es.map fun e=>(false,assign e env)).findIdx? (·.1) = none:=by
  rw [List.findIdx?_eq_none_iff]
  intro x hx
  refine xA1_1 (List.mem_map.mp hx) ?_;intro e _ hT1;subst hT1
  rfl
theorem tupAt_ok {es:List Expr} {as:List (V -> WS)} {k:Nat} {pos:Pos} (h:SAs G c n es as) (hes:∀ env,assignEach es env = es.map fun e=>(false,assign e env)) {t:Addr} {items:Array Value} {A:Around} {o:Org} {s:Shared} {H:MH} {ls:List V} {Qn:QL} {Qr:QV} {X:XP}
    (hA:AOk n c A) (hs:St G c o H ls s) (ht:s.heap.IsTuple t items) (hlen:es.length = items.size) (hw:aList as (items.toList.map er) ls Qn Qr X H):wpAny (model G.prog G.w) A (assign (.Tuple es k pos) c.env (.ref t)) (RU G c o Qn) (PXs G c o X) s:=by
  refine wpAny_assign_Tuple hA.2.1 ht (by rw [hes,List.length_map];exact hlen) (by rw [hes];exact star_none es c.env) fun h' hx=>?_
  rw [hes,List.map_map]
  refine inOrder_ok h hA (hs.keeps (s':={ s with heap:=h' }) (fun b y e=>hx b y (fun q=>?_) e) rfl rfl) hw
  exact Nat.lt_irrefl _ (q ▸ Heap.lt_size e)
theorem a_tup {es:List Expr} {as:List (V -> WS)} {k:Nat} {pos:Pos} (h:SAs G c n es as) (hes:∀ env,assignEach es env = es.map fun e=>(false,assign e env):=by intro _;rfl)
    (hm:∀ a ∈ as,∀ v ls Qn Qr X H,a v ls Qn Qr X H -> ∃ ls' H',Qn ls' H'):SA G c n (.Tuple es k pos) (aTup as):=fun A o s H ls Qn Qr X v hA hs hw=>by
  refine onRef_k hw ?_
  clear hw
  intro t ht hw
  subst ht
  refine onTup_k hw fun vs hH hw=>?_
  refine xA1_1 (live_tup hs hH) ?_;intro items hT1 h4;refine xA1_2 hT1 ?_;(try clear hT1);intro ob h1 h2 hT2;refine xA1_0 hT2 ?_;(try clear hT2);intro m h3
  have hl:=aList_len hm hw
  exact tupAt_ok h hes hA hs (xI1_2 ob h1 h2 ⟨ m,h3⟩) (by rw [as_len h,hl,<- h4,List.length_map,Array.length_toList]) (h4 ▸ hw)
theorem aLoc_ends (i:Nat):∀ v ls Qn Qr X H,aLoc i v ls Qn Qr X H -> ∃ ls' H',Qn ls' H':=fun v ls Qn Qr X H h=>(xI2_0 _ _ h)
noncomputable def sAsgT (a:V -> WS) (e:WE):WS:=fun ls Qn Qr X H=>e ls (fun v H'=>a v ls Qn Qr X H') X H
theorem s_asgT {es:List Expr} {k:Nat} {tpos pos:Pos} {e:Expr} {a:V -> WS} {w:WE} (ha:SA G c n (.Tuple es k tpos) a) (he:SE G c n e w)
    (hs:∀ env,swapsWithSole [.Tuple es k tpos] e pos.line env = pure false:=by intro _;rfl) (hw:∀ env,swappedStores [.Tuple es k tpos] e env = pure none:=by intro _;rfl):SS G c n (.Assign [.Tuple es k tpos] e pos) (sAsgT a w):=fun A o s H ls Qn Qr X hA hst h =>
  Assign_Tuple (he.go hA hst h (fun v s1 H1 hs1 h1=>ha.go hA hs1 h1 (fun zz s2 ls2 H2 hs2 h2=>(xI2_1 ls2 H2 hs2 h2)) fun zz zz e=>e) fun zz zz e=>⟨ls,e⟩) (hs _) (hw _)
noncomputable def ESrc (I e a:Addr) (all:List V) (xs:List (Nat × V)) (h:Heap):Prop:=e ≠ I /\ ∃ i old,IsEnum h e I (i:Nat) old /\ h.IsListIter I a i /\ (all.zipIdx.map fun p=>(p.2,p.1)).drop i = xs
theorem esrc_keep {I e a:Addr} {all:List V} {xs:List (Nat × V)} (h h':Heap) (x:ESrc I e a all xs h) (hk:∀ b ∈ [e,I],∀ y,h.get? b = some y -> h'.get? b = some y):ESrc I e a all xs h':=by
  refine xA0_1 x ?_;(try clear x);intro hne hT1;refine xA2_2 hT1 ?_;(try clear hT1);intro i old h1 hT2 h4;refine xA1_1 hT2 ?_;(try clear hT2);intro ob h2 h3
  exact ⟨hne,(xI2_2 i old (hk e (.head _) _ h1) (xI1_1 ob (hk I (.tail _ (.head _)) _ h2) h3) h4)⟩
theorem esrc_live {I e a:Addr} {all:List V} {xs:List (Nat × V)} (h:Heap) (x:ESrc I e a all xs h):∀ b ∈ [e,I],∃ y,h.get? b = some y:=fun b hb=>by
  refine xA0_1 x ?_;(try clear x);intro hne hT1;refine xA2_2 hT1 ?_;(try clear hT1);intro i old h1 hT2 h4;refine xA1_1 hT2 ?_;(try clear hT2);intro ob h2 h3
  rcases List.mem_cons.mp hb with rfl | hb
  · exact ⟨_,h1⟩
  · rw [List.mem_singleton.mp hb];exact ⟨_,h2⟩
theorem esrc_nocode {I e a:Addr} {all:List V} {xs:List (Nat × V)} (h:Heap) (x:ESrc I e a all xs h):∀ b ∈ [e,I],∀ q,¬ h.CodeRec (.ref b) q:=fun b hb q hc=>by
  refine xA0_1 x ?_;(try clear x);intro hne hT1;refine xA2_2 hT1 ?_;(try clear hT1);intro i old h1 hT2 h4;refine xA1_2 hT2 ?_;(try clear hT2);intro ob h2 h3 h3'
  refine xA4_3 hc ?_;(try clear hc);intro ca oc vs t e1 e2 e3 e4
  cases e1
  rcases List.mem_cons.mp hb with rfl | hb
  · rw [h1] at e2;cases e2;cases e3;cases e4
  · rw [List.mem_singleton.mp hb,h2] at e2;cases e2;rw [h3'] at e3;cases e3;cases e4
noncomputable def aPair (as:List (V -> WS)) (p:Nat × V) (ls:List V) (Q:QL) (H:MH):Prop:=aList as [.int p.1,p.2] ls Q (fun zz zz=>False) (fun zz zz=>False) H
theorem iter_enum (CO:CxOk G c) {es:List Expr} {as:List (V -> WS)} {k:Nat} {pos:Pos} (hsa:SAs G c n es as) (h2:es.length = 2) (hes:∀ env,assignEach es env = es.map fun e=>(false,assign e env)) {I e a:Addr} {all:List V} :
    IterOk G c n (.Tuple es k pos) (.ref e) [e,I] (ESrc I e a all) (lGuard a all) (aPair as) where
  keep:=fun xs h h' hx hk=>esrc_keep h h' hx hk
  live:=fun xs h hx=>esrc_live h hx
  nocode:=fun xs h hx=>esrc_nocode h hx
  fin:=fun A o s H ls E hA hs hn hg hF1=>xA0_1 hF1 fun hne hF2=>xA2_2 hF2 fun i old h1 hit hd=>by
    refine xA1_1 (live_list hs hg) ?_;intro items hl he
    have hx:items[i]? = none:=by
      have:=getElem_er he i
      rw [List.getElem?_eq_none (by have h5:=congrArg List.length hd;rw [List.length_drop] at h5;simp only [List.length_nil,List.length_map,List.length_zipIdx] at h5;exact oA188 h5)] at this
      simpa using this
    exact wpAny_pyNext_enum_end hA.2.1 h1 hit hl hx fun h' hx'=>(xI0_2 rfl ((hs.hiddenN (s':={ s with heap:=h' }) CO (hn I (.tail _ (.head _))) (fun b y hb e=>hx' b y hb e) rfl rfl).1) (kept_hid fun b y e hb=>hx' b y (fun q=>hb (q ▸ .tail _ (.head _))) e))
  turn:=fun A o s H ls Qn E x xs hA hs hn hg hF1 h=>xA0_1 hF1 fun hne hF2=>xA2_2 hF2 fun i old h1 hit hd=>by
    refine xA1_1 (live_list hs hg) ?_;intro items hl he
    have hxi:(all.zipIdx.map fun p=>(p.2,p.1))[i]? = some x:=by
      have:((all.zipIdx.map fun p=>(p.2,p.1)).drop i)[0]? = some x:=by rw [hd];rfl
      simpa using this
    have hd':(all.zipIdx.map fun p=>(p.2,p.1)).drop (i + 1) = xs:=by
      have:((all.zipIdx.map fun p=>(p.2,p.1)).drop i).drop 1 = xs:=by rw [hd];rfl
      rwa [List.drop_drop] at this
    rw [List.getElem?_map] at hxi
    refine xA1_1 (Option.map_eq_some_iff.mp hxi) ?_;intro p hp hT1;subst hT1
    rw [List.getElem?_zipIdx] at hp
    refine xA1_1 (Option.map_eq_some_iff.mp hp) ?_;intro u hu hT1;subst hT1
    have:=getElem_er he i
    rw [hu] at this
    refine xA1_1 (Option.map_eq_some_iff.mp this) ?_;intro v hv hev
    have nE:=hn e (.head _)
    have nI:=hn I (.tail _ (.head _))
    refine wpAny_pyNext_enum_item h1 hit hl hv hne fun h' g1 g2 g3 g4 g5=>?_
    obtain ⟨hsz,-⟩:s.heap.get? s.heap.objs.size = none /\ True:=⟨by
      cases q:s.heap.get? s.heap.objs.size with
      | none => rfl
      | some y => exact absurd (Heap.lt_size q) (Nat.lt_irrefl _),trivial⟩
    have hs1:St G c o H ls { s with heap:=h',toks:=s.toks + 1 }:=hs.fly CO [e,I] hn (fun b y e' hb zz=>g5 b y (fun q=>hb (q ▸ .head _)) (fun q=>hb (q ▸ .tail _ (.head _))) e') (fun b y e' hb=>⟨y.slots,g5 b y (fun q=>nE.frm (q ▸ hb)) (fun q=>nI.frm (q ▸ hb)) e'⟩) rfl rfl
    have hP:∀ ps,h'.get? G.P = some (tabObj ps) -> s.heap.get? G.P = some (tabObj ps):=fun ps hp=>by
      refine xA1_1 hs.tab ?_;intro ps' q1 _
      have:=g5 _ _ (Ne.symm nE.P) (Ne.symm nI.P) q1
      rw [hp] at this;cases this;exact q1
    have hn1:∀ b ∈ [e,I],New G c o H h' b:=fun b hb=>(hn b hb).mono (hn b hb).H hP
    refine (xI1_1 _ rfl ?_)
    refine wpAny_letOwnedTupleGo_enum (s:={ s with heap:=h',toks:=s.toks + 1 }) g1 fun h'' k1 k2=>?_
    have nE1:New G c o H h' e:=hn1 e (.head _)
    refine xA0_1 (hs1.hiddenN (s':={ s with heap:=h'',toks:=s.toks + 1 }) CO nE1 (fun b y hb e=>(k2.2 b hb).trans e) rfl rfl) ?_;intro hs2 hn2
    have htne:s.heap.objs.size ≠ e:=fun q=>Nat.lt_irrefl _ (show s.heap.objs.size < s.heap.objs.size from lt_of_eq_of_lt q (Heap.lt_size h1))
    have ht:h''.IsTuple s.heap.objs.size #[.int i s.toks,v]:=(xI1_2 _ ((k2.2 _ htne).trans g3) rfl ⟨ 0,rfl⟩)
    have src:ESrc I e a all xs h'':=⟨hne,(xI2_2 (i + 1) v k1 (by
      refine xA1_1 g2 ?_;(try clear g2);intro ob q1 q2
      exact (xI1_1 ob ((k2.2 _ (Ne.symm hne)).trans q1) q2)) hd')⟩
    refine wpAny_mono (tupAt_ok (Qn:=Qn) (Qr:=fun zz zz=>False) (X:=fun zz zz=>False) hsa hes hA hs2.rebase ht (by rw [h2];rfl) (by show aList as [er (.int i s.toks),er v] _ _ _ _ _;rw [hev];simpa [aPair,er] using h)) (fun zz s3 hF1=>xA2_1 hF1 fun ls' H' hs3 hq=>?_) fun e' s' he=>?_
    · have hn2':∀ b ∈ [e,I],New G c o H h'' b:=fun b hb=>hn2 b (hn1 b hb)
      have src3:=esrc_keep _ _ src fun b hb y e'=>kept_new hs3 (hn2' b hb) e'
      exact (xI2_4 ls' H' (hs2.trans hs3) (fun b hb=>(hn2' b hb).later hs2 hs3 (esrc_live _ src b hb) (esrc_nocode _ src3 b hb)) src3 (kept_of (s1:={ s with heap:=h'',toks:=s.toks + 1 }) (fun b y e' hb=>(k2.2 b (fun q=>hb (q ▸ .head _))).trans (g5 b y (fun q=>hb (q ▸ .head _)) (fun q=>hb (q ▸ .tail _ (.head _))) e')) (kept_st (o:=o) hs3)) hq)
    · refine xA4_3 he ?_;(try clear he);intro _ _ _ _ _ _ hx _
      exact hx.elim
end
noncomputable abbrev QI (ι:Type):=(MH -> Prop) -> List ι -> MH -> Prop
noncomputable abbrev WI (ι:Type):=List V -> QI ι -> XP -> MH -> Prop
section
variable {G:Gl} {c:Cx} {n:Nat}
noncomputable abbrev ItK (ι:Type):=Value -> List Addr -> (List ι -> Heap -> Prop) -> (MH -> Prop) -> Prop
noncomputable def LK:ItK V:=fun it l Src g=>∃ I a all,it = .ref I /\ l = [I] /\ Src = LSrc I a all /\ g = lGuard a all
noncomputable def RK:ItK V:=fun it l Src g=>∃ I step,it = .ref I /\ l = [I] /\ Src = RSrc I step /\ g = fun zz=>True
noncomputable def EK:ItK (Nat × V):=fun it l Src g=>∃ I e a all,it = .ref e /\ l = [e,I] /\ Src = ESrc I e a all /\ g = lGuard a all
noncomputable def IOk (G:Gl) (c:Cx) (n:Nat) (target:Expr) {ι:Type} (K:ItK ι) (aw:ι -> List V -> QL -> MH -> Prop):Prop:=∀ it l Src g,K it l Src g -> IterOk G c n target it l Src g aw
noncomputable def ISelf (G:Gl) {ι:Type} (K:ItK ι):Prop:=∀ it l Src g,K it l Src g -> ∀ xs A s Q E,Src xs s.heap -> Q it s -> wpAny (model G.prog G.w) A (pyIter it) Q E s
theorem self_list:ISelf G LK:=fun it l Src g hF1 xs A s Q E hs hq=>xA3_3 hF1 fun I a all h1 h2 h3 h4=>by
  subst h1 h3
  refine xA1_1 hs ?_;(try clear hs);intro i h _
  exact wpAny_pyIter_listiter h hq
theorem self_range:ISelf G RK:=fun it l Src g hF1 xs A s Q E hs hq=>xA2_3 hF1 fun I st h1 h2 h3 h4=>by
  subst h1 h3
  refine xA2_1 hs ?_;(try clear hs);intro x k h _
  exact wpAny_pyIter_rangeiter h hq
theorem self_enum:ISelf G EK:=fun it l Src g hF1 xs A s Q E hs hq=>xA4_3 hF1 fun I e a all h1 h2 h3 h4=>by
  subst h1 h3
  refine xA0_1 hs ?_;(try clear hs);intro _ hT1;refine xA2_1 hT1 ?_;(try clear hT1);intro i old h _
  exact wpAny_pyIter_enum h hq
noncomputable def SIt (G:Gl) (c:Cx) (n:Nat) (iter:Expr) {ι:Type} (K:ItK ι) (wi:WI ι):Prop :=
  ∀ A o s H ls Q X,AOk n c A -> St G c o H ls s -> wi ls Q X H -> wpAny (model G.prog G.w) A (eval iter c.env) (fun x s1=>wpAny (model G.prog G.w) A (pyIter x) (fun it s2 =>
    ∃ H2 l Src guard xs,K it l Src guard /\ St G c o H2 ls s2 /\ (∀ b ∈ l,New G c o H2 s2.heap b) /\ Src xs s2.heap /\ Q guard xs H2) (PX G c o ls X) s1) (PX G c o ls X) s
noncomputable def sFor {ι:Type} (aw:ι -> List V -> QL -> MH -> Prop) (wi:WI ι) (b:WS):WS:=fun ls Qn Qr X H=>wi ls (fun guard xs H2=>forW guard aw b xs ls Qn Qr X H2) X H
theorem s_for (CO:CxOk G c) {outer:List Env} (hst:c.stack = c.env :: outer) {target iter:Expr} {body:List Stmt} {pos:Pos} {ι:Type} {K:ItK ι} {aw:ι -> List V -> QL -> MH -> Prop} {wi:WI ι} {wb:WS} (hi:SIt G c n iter K wi) (hk:IOk G c n target K aw) (hb:SB G c n body wb)
    (hs:∀ env x,foldedSetIterable iter env x = pure x:=by intro _ _;rfl):SS G c n (.For target iter body [] pos) (sFor aw wi wb):=fun A o s H ls Qn Qr X hA hst' h=>by
  refine wpAny_For (wpAny_mono (hi A o s H ls _ X hA hst' h) (fun x s1 h1=>wpAny_mono h1 (fun it s2 h2=>?_) fun zz zz e=>⟨ls,e⟩) fun zz zz e=>⟨ls,e⟩) (hs _)
  refine xA5_0 h2 ?_;(try clear h2);intro H2 l Src guard xs hT1;refine xA0_4 hT1 ?_;(try clear hT1);intro I hs2 hn hsrc hq
  refine codeAny_mono (for_core CO hst (hk _ _ _ _ I) hb hA hs2 hn hsrc hq) fun r s' hr=>?_
  cases r with
  | ok f => exact hr
  | error e => exact came_ok CO hr
noncomputable def iList (e:WE):WI V:=fun ls Q X H=>e ls (fun v H1=>onRef v fun a=>onList (H1 a) fun all=>Q (lGuard a all) all H1) X H
theorem size_none (h:Heap):h.get? h.objs.size = none:=by
  cases q:h.get? h.objs.size with
  | none => rfl
  | some y => exact absurd (Heap.lt_size q) (Nat.lt_irrefl _)
theorem St.push {o:Org} {H:MH} {ls:List V} {s:Shared} (x:St G c o H ls s) (ob:Obj) (t:Nat):St G c o H ls { s with heap:=s.heap.push ob,toks:=t }:=x.keeps (fun b y e=>Heap.get?_push_of_some _ e) rfl rfl
theorem St.newTop {o:Org} {H:MH} {ls:List V} {s:Shared} (x:St G c o H ls s) (ob:Obj):New G c o H (s.heap.push ob) s.heap.objs.size :=
  x.newOf (size_none _) fun ps hp=>by
    refine xA1_1 x.tab ?_;intro ps' h1 _
    have h2:(s.heap.push ob).get? G.P = some (tabObj ps'):=Heap.get?_push_of_some _ h1
    rw [hp] at h2;cases h2;exact h1
theorem it_list {iter:Expr} {e:WE} (he:SE G c n iter e):SIt G c n iter LK (iList e):=fun A o s H ls Q X hA hs h=>by
  refine he.go hA hs h (fun x s1 H1 hs1 h1=>?_) fun zz zz e=>e
  refine onRef_k h1 ?_
  clear h1
  intro a hx h1
  subst hx
  refine onList_k h1 fun all hH h1=>?_
  refine xA1_1 (live_list hs1 hH) ?_;intro items hl hT1;clear hT1
  refine wpAny_pyIter_list hl ?_
  refine (xI5_4 H1 [s1.heap.objs.size] (LSrc s1.heap.objs.size a all) (lGuard a all) all (xI3_3 _ _ _ rfl rfl rfl rfl) (hs1.push _ _) (fun b hb=>by rw [List.mem_singleton.mp hb];exact hs1.newTop _) (xI1_1 0 (xI1_2 _ (Heap.get?_push_size _ rfl) rfl rfl) rfl) h1)
theorem go_name {x:Str} {pos:Pos} (it v:Value):letOwnedTupleGo (.Name x pos) it v = pure ():=rfl
theorem k_list (CO:CxOk G c) {i:Nat} {x:Str} {pos:Pos} (ha:SA G c n (.Name x pos) (aLoc i)):IOk G c n (.Name x pos) LK (aOf (aLoc i)):=fun it l Src g hF1=>xA3_3 hF1 fun I a all h1 h2 h3 h4=>by
  subst h1 h2 h3 h4
  exact iter_list CO ha (fun v A s i Q E H o ls zz zz zz h=>by rw [go_name];exact wpAny_pure h) fun x ls Q H h=>trivial
noncomputable def aTup2 (i j:Nat):V -> WS:=aTup [aLoc i,aLoc j]
theorem k_list2 (CO:CxOk G c) {i j:Nat} {e1 e2:Expr} {k:Nat} {pos:Pos} (h1:SA G c n e1 (aLoc i)) (h2:SA G c n e2 (aLoc j))
    (hes:∀ env,assignEach [e1,e2] env = [e1,e2].map fun e=>(false,assign e env):=by intro _;rfl):IOk G c n (.Tuple [e1,e2] k pos) LK (aOf (aTup2 i j)):=fun it l Src g hF1=>xA3_3 hF1 fun I a all g1 g2 g3 g4=>by
  subst g1 g2 g3 g4
  exact iter_list CO (a_tup (.cons h1 (.cons h2 .nil)) hes (fun a ha v ls Qn Qr X H h=>by
      rcases List.mem_cons.mp ha with rfl | ha
      · exact (xI2_0 _ _ h)
      · rw [List.mem_singleton.mp ha] at h;exact (xI2_0 _ _ h))) (fun v A s i Q E H o ls zz hit h hq=>onRef_k (show onRef (er v) _ from h) fun t ht zz=>ht ▸ wpAny_letOwnedTupleGo_listiter hit hq) fun x ls Q H h=>onRef_v (show onRef x _ from h) fun t ht h=>onTup_k h fun vs hvs h=>by
      show onRef x fun t=>onTup (H t) fun vs=>_
      rw [ht,onRef_mk,hvs,onTup_mk]
      match vs,h with
      | [u,v],h => trivial
theorem map1 {vs:List Value} {a:V} (h:vs.map er = [a]):∃ v,vs = [v] /\ er v = a:=by
  refine xA2_2 (List.map_eq_cons_iff.mp h) ?_;intro v r hT1;subst hT1;intro h1 h2
  rw [List.map_eq_nil_iff.mp h2]
  exact (xI1_1 v rfl h1)
theorem map2 {vs:List Value} {a b:V} (h:vs.map er = [a,b]):∃ v u,vs = [v,u] /\ er v = a /\ er u = b:=by
  refine xA2_2 (List.map_eq_cons_iff.mp h) ?_;intro v r hT1;subst hT1;intro h1 h2
  refine xA1_1 (map1 h2) ?_;intro u hT1;subst hT1;intro h3
  exact (xI2_2 v u rfl h1 h3)
theorem map3 {vs:List Value} {a b d:V} (h:vs.map er = [a,b,d]):∃ v u z,vs = [v,u,z] /\ er v = a /\ er u = b /\ er z = d:=by
  refine xA2_2 (List.map_eq_cons_iff.mp h) ?_;intro v r hT1;subst hT1;intro h1 h2
  refine xA2_1 (map2 h2) ?_;intro u z hT1;subst hT1;intro h3
  exact (xI3_2 v u z rfl h1 h3)
@[irreducible] noncomputable def iR (step:Int) (a b:Int) (Q:QI V) (H:MH):Prop:=(-(2 ^ 60) <= a /\ a < 2 ^ 60 /\ -(2 ^ 60) <= b /\ b < 2 ^ 60) /\ Q (fun zz=>True) (rangeL step (if step = 1 then b - a else a - b).toNat a) H
noncomputable def iRange1 (l:WL):WI V:=fun ls Q X H=>l ls (fun vs H1=>on1 vs fun b=>onInt b fun b=>iR 1 0 b Q H1) X H
noncomputable def iRange2 (l:WL):WI V:=fun ls Q X H=>l ls (fun vs H1=>on2 vs fun a b=>onInt a fun a=>onInt b fun b=>iR 1 a b Q H1) X H
noncomputable def iRange3 (l:WL):WI V:=fun ls Q X H=>l ls (fun vs H1=>on3 vs fun a b d=>onInt a fun a=>onInt b fun b=>d = .int (-1) /\ iR (-1) a b Q H1) X H
theorem iR_up {a b:Int} {Q:QI V} {H:MH} (h1:-(2 ^ 60) <= a /\ a < 2 ^ 60 /\ -(2 ^ 60) <= b /\ b < 2 ^ 60) (h:Q (fun zz=>True) (rangeL 1 (b - a).toNat a) H):iR 1 a b Q H:=by unfold iR;exact ⟨h1,by rw [if_pos rfl];exact h⟩
theorem iR_down {a b:Int} {Q:QI V} {H:MH} (h1:-(2 ^ 60) <= a /\ a < 2 ^ 60 /\ -(2 ^ 60) <= b /\ b < 2 ^ 60) (h:Q (fun zz=>True) (rangeL (-1) (a - b).toNat a) H):iR (-1) a b Q H:=by unfold iR;exact ⟨h1,by rw [if_neg (by decide)];exact h⟩
theorem rsize {step a b:Int} (hs:step = 1 ∨ step = -1):Builtin.Range.rangeSize a b step = ((if step = 1 then b - a else a - b).toNat:Int):=by
  unfold Builtin.Range.rangeSize
  rcases hs with rfl | rfl
  · simp only [show (1:Int) > 0 by decide,if_true,Int.ediv_one]
    split <;> lia
  · simp only [show ¬ ((-1:Int) > 0) by decide,if_false,Int.neg_neg,Int.ediv_one,show ¬ ((-1:Int) = 1) by decide]
    split <;> lia
theorem rsmall {step a b:Int} (hs:step = 1 ∨ step = -1) (h:-(2 ^ 60) <= a /\ a < 2 ^ 60 /\ -(2 ^ 60) <= b /\ b < 2 ^ 60):Builtin.Range.small a b step = true:=by
  unfold Builtin.Range.small
  rw [rsize hs]
  simp only [Builtin.Range.rangeFitsLong,Bool.and_eq_true,Bool.or_eq_true,decide_eq_true_eq,beq_iff_eq]
  rcases hs with rfl | rfl
  · simp only [if_true,show (1:Int) > 0 by decide,decide_eq_true_eq]
    simp only [Bool.and_eq_true,decide_eq_true_eq]
    omega
  · simp only [show ¬ ((-1:Int) > 0) by decide,if_false,show ¬ ((-1:Int) = 1) by decide]
    simp only [Bool.and_eq_true,decide_eq_true_eq]
    exact oA137 h
theorem range_at {step a b:Int} (hst:step = 1 ∨ step = -1) {A:Around} {o:Org} {s:Shared} {H:MH} {ls:List V} {Q:QI V} {E:Value -> Shared -> Prop} {r:Addr} {t u v:Tok} (hs:St G c o H ls s)
    (hr:IsRange s.heap r a b step t u v) (h:iR step a b Q H):wpAny (model G.prog G.w) A (pyIter (.ref r)) (fun it s2 =>
    ∃ H2 l Src guard xs,RK it l Src guard /\ St G c o H2 ls s2 /\ (∀ b ∈ l,New G c o H2 s2.heap b) /\ Src xs s2.heap /\ Q guard xs H2) E s:=by
  unfold iR at h
  refine wpAny_pyIter_range hr (rsmall hst h.1) ?_
  refine (xI5_4 H [s.heap.objs.size] (RSrc s.heap.objs.size step) (fun zz=>True) _ (xI2_3 _ _ rfl rfl rfl rfl) (hs.push _ _) (fun b hb=>by rw [List.mem_singleton.mp hb];exact hs.newTop _) (xI2_1 a _ ?_ rfl) h.2)
  rw [<- rsize hst]
  exact Heap.get?_push_size _ rfl
theorem k_range (CO:CxOk G c) {i:Nat} {x:Str} {pos:Pos} (ha:SA G c n (.Name x pos) (aLoc i)):IOk G c n (.Name x pos) RK (aOf (aLoc i)):=fun it l Src g hF1=>xA2_3 hF1 fun I st h1 h2 h3 h4=>by
  subst h1 h2 h3 h4
  exact iter_range CO ha (go_name _)
theorem range_call (GO:GlOk G) {es:List Expr} {l:WL} {x:Str} {np pos:Pos} (hx:SE G c n (.Name x np) (wVal (.type "range"))) (hl:SEs G c n es l) (hp:PlainArgs es) {A:Around} {o:Org} {s:Shared} {H:MH} {ls:List V} {Q:QL} {X:XP} {R:Value -> Shared -> Prop} (hA:AOk n c A) (hs:St G c o H ls s) (h:l ls Q X H)
    (hR:∀ vs s1 H1,St G c o H1 ls s1 -> Q (vs.map er) H1 -> wpAny (model G.prog G.w) A (call (.type "range") vs) R (PX G c o ls X) s1) :
    wpAny (model G.prog G.w) A (eval (.Call (.Name x np) es [] pos) c.env) R (PX G c o ls X) s:=by
  refine wpAny_Call_NameR (hx.val hA hs (fun v s1 hs1 h1=>?_) fun zz zz e=>e)
  rw [er_type h1]
  refine xA0_1 (hp pos c.env) ?_;intro h1 hT1;refine xA2_0 hT1 ?_;(try clear hT1);intro x r e
  refine call_by GO (.type _) h1 ?_
  have:=hl A o s1 H ls _ X pos hA hs1 h
  rw [e] at this ⊢
  exact PySem.Calls.evalArgs_plain (wpAny_mono this (fun vs s2 hF1=>xA1_1 hF1 fun H2 hs2 h2=>(xI0_2 rfl hs2.base (by simpa using hR vs s2 H2 hs2 h2))) fun zz zz e=>e)
theorem it_range1 (GO:GlOk G) {es:List Expr} {l:WL} {np pos:Pos} (hx:SE G c n (.Name "range" np) (wVal (.type "range"))) (hl:SEs G c n es l) (hp:PlainArgs es:=by intro _ _;exact ⟨rfl,_,_,rfl⟩):SIt G c n (.Call (.Name "range" np) es [] pos) RK (iRange1 l):=fun A o s H ls Q X hA hs h =>
  range_call GO hx hl hp hA hs h fun vs s1 H1 hs1 h1=>by
    refine on1_k h1 fun v1 hv h2=>onInt_k h2 fun b t e1 h3=>?_
    clear h1 h2
    subst hv e1
    have h1:=h3
    exact call_range_1 (range_at (.inl rfl) (hs1.push _ _) (IsRange.new _ _ _ _ _ _ _) h1)
theorem it_range2 (GO:GlOk G) {es:List Expr} {l:WL} {np pos:Pos} (hx:SE G c n (.Name "range" np) (wVal (.type "range"))) (hl:SEs G c n es l) (hp:PlainArgs es:=by intro _ _;exact ⟨rfl,_,_,rfl⟩):SIt G c n (.Call (.Name "range" np) es [] pos) RK (iRange2 l):=fun A o s H ls Q X hA hs h =>
  range_call GO hx hl hp hA hs h fun vs s1 H1 hs1 h1=>by
    refine on2_k h1 fun v1 v2 hv h2=>onInt_k h2 fun a t e1 h3=>onInt_k h3 fun b u e2 h4=>?_
    clear h1 h2 h3
    subst hv e1 e2
    have h1:=h4
    exact call_range_2 (range_at (.inl rfl) (hs1.push _ _) (IsRange.new _ _ _ _ _ _ _) h1)
theorem it_range3 (GO:GlOk G) {es:List Expr} {l:WL} {np pos:Pos} (hx:SE G c n (.Name "range" np) (wVal (.type "range"))) (hl:SEs G c n es l) (hp:PlainArgs es:=by intro _ _;exact ⟨rfl,_,_,rfl⟩):SIt G c n (.Call (.Name "range" np) es [] pos) RK (iRange3 l):=fun A o s H ls Q X hA hs h =>
  range_call GO hx hl hp hA hs h fun vs s1 H1 hs1 h1=>by
    refine on3_k h1 fun v1 v2 v3 hv h2=>onInt_k h2 fun a t e1 h3=>onInt_k h3 fun b u e2 h4=>?_
    clear h1 h2 h3
    refine xA0_1 h4 ?_;(try clear h4);intro e3 h1
    subst hv e1 e2
    refine xA1_0 (er_int e3) ?_;intro z hT1;subst hT1
    have h2:=h1
    unfold iR at h2
    refine xA0_1 h2 ?_;(try clear h2);intro hT1 hT2;refine xA0_3 hT1 ?_;(try clear hT1);intro k1 k2 k3 k4;clear hT2
    refine call_range_3 (by decide) (range_at (.inr rfl) (hs1.push _ _) (IsRange.new _ _ _ _ _ _ _) h1) (.inl (PyProof.noPylong_small ?_))
    lia
noncomputable def enumQ (Q:QI (Nat × V)) (v:V) (H1:MH):Prop:=onRef v fun a=>onList (H1 a) fun all=>Q (lGuard a all) (all.zipIdx.map fun p=>(p.2,p.1)) H1
noncomputable def iEnum (e:WE):WI (Nat × V):=fun ls Q X H=>e ls (enumQ Q) X H
noncomputable def q1 (Q:QV) (vs:List V) (H:MH):Prop:=on1 vs fun v=>Q v H
theorem enum_at {A:Around} {o:Org} {s:Shared} {H:MH} {ls:List V} {Q:QI (Nat × V)} {E:Value -> Shared -> Prop} {v:Value} (hs:St G c o H ls s) (h:enumQ Q (er v) H) :
    wpAny (model G.prog G.w) A (call (.type "enumerate") [v]) (fun x s1=>wpAny (model G.prog G.w) A (pyIter x) (fun it s2 =>
      ∃ H2 l Src guard xs,EK it l Src guard /\ St G c o H2 ls s2 /\ (∀ b ∈ l,New G c o H2 s2.heap b) /\ Src xs s2.heap /\ Q guard xs H2) E s1) E s:=by
  refine onRef_k h fun a hv h2=>onList_k h2 fun all hH hq=>?_
  clear h h2
  subst hv
  refine xA2_1 (live_listOf hs hH) ?_;intro items m hl hT1;clear hT1
  refine call_enumerate_1 hl fun h' g1 g2 g3 g4=>wpAny_pyIter_enum g1 ?_
  have hs3:St G c o H ls { s with heap:=h' }:=hs.keeps g4 rfl rfl
  have hP:∀ ps,h'.get? G.P = some (tabObj ps) -> s.heap.get? G.P = some (tabObj ps):=fun ps hp=>by
    refine xA1_1 hs.tab ?_;intro ps' q1 _
    have:=g4 _ _ q1
    rw [hp] at this;cases this;exact q1
  have none_top:s.heap.get? (s.heap.objs.size + 1) = none:=by
    cases q:s.heap.get? (s.heap.objs.size + 1) with
    | none => rfl
    | some y => exact absurd (Heap.lt_size q) (Nat.not_lt.mpr (Nat.le_succ _))
  refine (xI5_4 H [s.heap.objs.size + 1,s.heap.objs.size] (ESrc s.heap.objs.size (s.heap.objs.size + 1) a all) (lGuard a all) _ (xI4_3 _ _ _ _ rfl rfl rfl rfl) hs3 (fun b hb=>?_) ⟨Nat.succ_ne_self _,(xI2_2 0 (.none) g1 g2 rfl)⟩ hq)
  rcases List.mem_cons.mp hb with rfl | hb
  · exact hs.newOf none_top hP
  · rw [List.mem_singleton.mp hb];exact hs.newOf (size_none _) hP
theorem k_enum (CO:CxOk G c) {i j:Nat} {e1 e2:Expr} {k:Nat} {pos:Pos} (h1:SA G c n e1 (aLoc i)) (h2:SA G c n e2 (aLoc j))
    (hes:∀ env,assignEach [e1,e2] env = [e1,e2].map fun e=>(false,assign e env):=by intro _;rfl):IOk G c n (.Tuple [e1,e2] k pos) EK (aPair [aLoc i,aLoc j]):=fun it l Src g hF1=>xA4_3 hF1 fun I e a all g1 g2 g3 g4=>by
  subst g1 g2 g3 g4
  exact iter_enum CO (.cons h1 (.cons h2 .nil)) rfl hes
theorem it_enum (GO:GlOk G) {e:Expr} {we:WE} {np pos:Pos} (hx:SE G c n (.Name "enumerate" np) (wVal (.type "enumerate"))) (he:SE G c n e we)
    (hp:PlainArgs [e]:=by intro _ _;exact ⟨rfl,_,_,rfl⟩) (he1:∀ env,starEach [e] env = (false,eval e env) :: starEach [] env:=by intro _;rfl) :
    SIt G c n (.Call (.Name "enumerate" np) [e] [] pos) EK (iEnum we):=fun A o s H ls Q X hA hs h=>by
  refine wpAny_Call_NameR (hx.val hA hs (fun v s1 hs1 g1=>?_) fun zz zz e=>e)
  rw [er_type g1]
  refine xA0_1 (hp pos c.env) ?_;intro hp1 hT1;refine xA2_0 hT1 ?_;(try clear hT1);intro x r eq
  refine call_by GO (.type _) hp1 ?_
  have:=l_cons he l_nil he1 A o s1 H ls (q1 (enumQ Q)) X pos hA hs1 h
  rw [eq] at this ⊢
  refine PySem.Calls.evalArgs_plain (wpAny_mono this (fun vs s2 hF1=>xA1_1 hF1 fun H2 hs2 hq=>(xI0_2 rfl hs2.base ?_)) fun zz zz e=>e)
  refine on1_k hq ?_
  clear hq
  intro v e hq
  subst e
  exact enum_at hs2 hq
end
noncomputable def clOf (env:Env):List (Str × NameKind) -> List (Str × Addr) -> List (Str × Addr)
  | [],acc => acc
  | (n,k) :: r,acc => if k == .free then (match env.cells.lookup n with | some a => clOf env r ((n,a) :: acc) | none => clOf env r acc) else clOf env r acc
theorem closure_of {scope:Scope} {env:Env} (h:∀ p ∈ scope.names,p.2 = .free -> ∃ a,env.cells.lookup p.1 = some a):closureFor scope env = pure (clOf env scope.names []):=by
  have go:∀ (f:Str × NameKind -> List (Str × Addr) -> Sem (ForInStep (List (Str × Addr)))),(∀ n k r,f (n,k) r = if (k == .free) = true then (do let a <- cellOf env n;pure (ForInStep.yield ((n,a) :: r))) else pure (ForInStep.yield r)) ->
      ∀ (names:List (Str × NameKind)) (acc:List (Str × Addr)),(∀ p ∈ names,p.2 = .free -> ∃ a,env.cells.lookup p.1 = some a) -> (forIn names acc f:Sem (List (Str × Addr))) = pure (clOf env names acc):=by
    intro f hf names
    induction names with
    | nil => intro acc _;rfl
    | cons p r ih =>
      intro acc hp
      obtain ⟨n,k⟩:=p
      rw [List.forIn_cons,hf]
      unfold clOf
      by_cases q:(k == .free) = true
      · have hk:k = .free:=by cases k <;> first | rfl | cases q
        refine xA1_0 (hp (n,k) (.head _) hk) ?_;intro a ha
        have ih:=ih ((n,a) :: acc) fun p hm=>hp p (.tail _ hm)
        rw [if_pos q,if_pos q]
        unfold cellOf
        simp only [ha]
        exact ih
      · rw [if_neg q,if_neg q]
        exact ih acc fun p hm=>hp p (.tail _ hm)
  unfold closureFor
  show (forIn scope.names [] _:Sem (List (Str × Addr))) >>= _ = _
  rw [go _ (fun n k r=>by cases hkc:k == NameKind.free <;> simp [hkc]) scope.names [] h]
  rfl
theorem clOf_mem {env:Env}:∀ (names:List (Str × NameKind)) (acc:List (Str × Addr)),(∀ p ∈ acc,env.cells.lookup p.1 = some p.2) -> ∀ p ∈ clOf env names acc,env.cells.lookup p.1 = some p.2
  | [],acc,h,p,hp => h p hp
  | (n,k) :: r,acc,h,p,hp => by
    unfold clOf at hp
    split at hp
    · split at hp
      · rename_i a ha
        exact clOf_mem r _ (fun p hm=>by
          rcases List.mem_cons.mp hm with rfl | hm
          · exact ha
          · exact h p hm) p hp
      · exact clOf_mem r _ h p hp
    · exact clOf_mem r _ h p hp
theorem clOf_acc {env:Env}:∀ (names:List (Str × NameKind)) (acc:List (Str × Addr)),∀ p ∈ acc,p ∈ clOf env names acc
  | [],acc,p,hp => hp
  | (n,k) :: r,acc,p,hp => by
    unfold clOf
    split
    · split
      · exact clOf_acc r _ p (.tail _ hp)
      · exact clOf_acc r _ p hp
    · exact clOf_acc r _ p hp
theorem clOf_has {env:Env} {x:Str} {a:Addr} (ha:env.cells.lookup x = some a):∀ (names:List (Str × NameKind)) (acc:List (Str × Addr)),(x,NameKind.free) ∈ names -> (x,a) ∈ clOf env names acc
  | (n,k) :: r,acc,h => by
    unfold clOf
    rcases List.mem_cons.mp h with e | h
    · cases e
      rw [if_pos (show (NameKind.free == NameKind.free) = true from rfl),ha]
      exact clOf_acc r _ _ (.head _)
    · split
      · split
        · exact clOf_has ha r _ h
        · exact clOf_has ha r _ h
      · exact clOf_has ha r _ h
theorem lookup_some_of_mem {x:Str} {a:Addr}:∀ {l:List (Str × Addr)},(x,a) ∈ l -> ∃ b,l.lookup x = some b
  | (y,b) :: r,h => by
    rw [List.lookup_cons]
    cases q:(x == y) with
    | true => exact ⟨b,rfl⟩
    | false =>
      rcases List.mem_cons.mp h with e | h
      · cases e;simp at q
      · exact lookup_some_of_mem h
theorem clOf_lookup {env:Env} {x:Str} {a:Addr} (ha:env.cells.lookup x = some a) {names:List (Str × NameKind)} (h:(x,NameKind.free) ∈ names):(clOf env names []).lookup x = some a:=by
  refine xA1_0 (lookup_some_of_mem (clOf_has ha names [] h)) ?_;intro b hb
  have:=clOf_mem names [] (fun zz h=>nomatch h) _ (mem_of_lookup hb)
  rw [hb]
  rw [ha] at this
  exact this.symm
theorem cellsFrom_app:∀ (names:List (Str × NameKind)) (n:Nat) (acc:List (Str × Addr)),cellsFrom n names acc = cellsFrom n names [] ++ acc
  | [],_,_ => rfl
  | (x,k) :: r,n,acc => by
    unfold cellsFrom
    split
    · rw [cellsFrom_app r (n + 1) ((x,n) :: acc),cellsFrom_app r (n + 1) [(x,n)],List.append_assoc];rfl
    · exact cellsFrom_app r n acc
theorem lookup_app {x:Str}:∀ (a b:List (Str × Addr)),(a ++ b).lookup x = match a.lookup x with | some v=>some v | none=>b.lookup x
  | [],b => rfl
  | (y,v) :: r,b => by
    rw [List.cons_append,List.lookup_cons,List.lookup_cons]
    cases (x == y) with
    | true => rfl
    | false => exact lookup_app r b
theorem cellsFrom_names_mem:∀ (names:List (Str × NameKind)) (n:Nat) {x:Str} {a:Addr},(x,a) ∈ cellsFrom n names [] -> (x,NameKind.cell) ∈ names
  | (y,k) :: r,n,x,a,h => by
    unfold cellsFrom at h
    split at h
    · rename_i hk
      rw [cellsFrom_app] at h
      rcases List.mem_append.mp h with h | h
      · exact .tail _ (cellsFrom_names_mem r _ h)
      · have e:=List.mem_singleton.mp h
        cases e
        have:k = .cell:=by cases k <;> first | rfl | cases hk
        rw [this];exact .head _
    · exact .tail _ (cellsFrom_names_mem r _ h)
theorem newEnv_comp {M:Model} {A:Around} {E:Value -> Shared -> Prop} {s:Shared} {scope:Scope} {globals:Addr} {cl:List (Str × Addr)} {qual:Str} {outer:Env} {Q:Env -> Shared -> Prop}
    (hQ:Q (newEnv scope s.heap.objs.size globals (cellsFrom (s.heap.objs.size + 1) scope.names cl) qual none .none (some outer) builtinsNs) { s with heap:=pushCells (s.heap.push { cls:=.type "dict",data:=.dict #[] }) scope.names }) :
    wpAny M A (newFunctionEnv scope globals cl [] qual none .none (some outer)) Q E s:=by
  simp only [newFunctionEnv,Option.isSome_some,if_true]
  refine wpAny_bind (wpAny_alloc ?_)
  refine wpAny_bind (wpAny_layCells _ (fun name kind cells=>by cases hkc:kind == NameKind.cell <;> simp [hkc]) _ _ _ _ ?_)
  rw [show ({ s with heap:=s.heap.push { cls:=.type "dict",data:=.dict #[] } }:Shared).heap.objs.size = s.heap.objs.size + 1 from Heap.size_push ..]
  exact wpAny_bind (wpAny_pure (wpAny_pure hQ))
noncomputable def cxK (c:Cx) (scope:Scope) (C:Addr) (own:List Str) (fr:List (Str × Nat)):Cx :=
  { env:=compEnvC scope (cellsFrom (C + 1) scope.names (clOf c.env scope.names [])) C c.env,stack:=c.stack,names:=own ++ fr.map (·.1),own:=C :: (cellsFrom (C + 1) scope.names []).map (·.2),cst:=fun x=>scope.names.lookup x == some .cell }
noncomputable def compLs (own:List Str) (fr:List (Str × Nat)) (ls:List V):List V:=own.map (fun zz=>V.unb) ++ fr.map (fun p=>ls.getD p.2 .unb)
structure KNames (c:Cx) (scope:Scope) (own:List Str) (fr:List (Str × Nat)):Prop where
  nd:(own ++ fr.map (·.1)).Nodup
  hown:∀ x ∈ own,scope.names.lookup x = some .local ∨ scope.names.lookup x = some .cell
  hfr:∀ p ∈ fr,c.names[p.2]? = some p.1 /\ c.env.kindOf p.1 ≠ some .local /\ scope.names.lookup p.1 = some .free /\ (p.1,NameKind.free) ∈ scope.names
  hfree:∀ p ∈ scope.names,p.2 = .free -> ∃ i,(p.1,i) ∈ fr
  loc:∀ p ∈ scope.names,scope.names.lookup p.1 = some p.2
  kind:scope.kind = .function
section
variable {G:Gl} {c:Cx} {n:Nat}
theorem lookup_relabel {env:Env} {x:Str} {k:NameKind}:∀ {names:List (Str × NameKind)},names.lookup x = some k -> k ≠ .local ->
    ∃ k',k' ≠ .local /\ (names.map fun (n,k)=>if (k == NameKind.free && env.scope.kind == .function && env.kindOf n == some .cell) then (n,NameKind.cell) else (n,k)).lookup x = some k'
  | [],h,_ => nomatch h
  | (y,u) :: r,h,hk => by
    rw [List.lookup_cons] at h
    rw [List.map_cons]
    dsimp only
    cases q:(x == y) with
    | true =>
      rw [q] at h
      cases h
      split
      · exact (xI1_1 (.cell) (by decide) (by rw [List.lookup_cons,q]))
      · exact (xI1_1 k hk (by rw [List.lookup_cons,q]))
    | false =>
      rw [q] at h
      refine xA1_1 (lookup_relabel (env:=env) h hk) ?_;intro k' h1 h2
      refine (xI1_1 k' h1 ?_)
      split <;> (rw [List.lookup_cons,q];exact h2)
theorem comp_ctx (CO:CxOk G c) {scope:Scope} {own:List Str} {fr:List (Str × Nat)} (KN:KNames c scope own fr) {o:Org} {s:Shared} {H:MH} {ls:List V} {C:Addr} {h3 h4:Heap} (hs:St G c o H ls s)
    (hk3:∀ b y,s.heap.get? b = some y -> h3.get? b = some y) (hsz:s.heap.objs.size <= h3.objs.size) (hC:C = h3.objs.size) (h4e:h4 = pushCells (h3.push { cls:=.type "dict",data:=.dict #[] }) scope.names) :
    CxOk G (cxK c scope C own fr) /\ St G (cxK c scope C own fr) ⟨H,h4⟩ H (compLs own fr ls) { s with heap:=h4 } /\ (∀ b ∈ (cxK c scope C own fr).own,h3.get? b = none) /\ (∀ b y,h3.get? b = some y -> h4.get? b = some y):=by
  have hk4:∀ b y,h3.get? b = some y -> h4.get? b = some y:=fun b y e=>by rw [h4e];exact pushCells_keeps _ _ b y (Heap.get?_push_of_some _ e)
  have hk:∀ b y,s.heap.get? b = some y -> h4.get? b = some y:=fun b y e=>hk4 b y (hk3 b y e)
  have fresh3:∀ b,C <= b -> h3.get? b = none:=fun b hb=>by
    cases q:h3.get? b with
    | none => rfl
    | some y => rw [hC] at hb;exact absurd (Heap.lt_size q) (Nat.not_lt.mpr hb)
  have fresh:∀ b,C <= b -> s.heap.get? b = none:=fun b hb=>none_of_keeps hk3 (fresh3 b hb)
  have ok:=cellsFrom_ok scope.names (h3.push { cls:=.type "dict",data:=.dict #[] }) (C + 1) [] ⟨fun zz zz hm=>(nomatch hm),List.Pairwise.nil⟩ (by rw [Heap.size_push,hC];exact Nat.le_refl _)
  rw [Heap.size_push,<- hC,<- h4e] at ok
  have hns:h4.Ns C (fun zz=>none):=by rw [h4e,hC];exact (Heap.Ns.new h3 (.type "dict")).keeps (pushCells_keeps _ _)
  have app:cellsFrom (C + 1) scope.names (clOf c.env scope.names []) = cellsFrom (C + 1) scope.names [] ++ clOf c.env scope.names []:=cellsFrom_app ..
  have hown:∀ b ∈ (cxK c scope C own fr).own,C <= b:=fun b hb=>by
    rcases List.mem_cons.mp hb with rfl | hb
    · exact Nat.le_refl _
    · refine xA1_1 (List.mem_map.mp hb) ?_;intro p hp hT1;subst hT1
      exact Nat.le_of_lt (ok.empty p.1 p.2 hp).2
  -- a cell of the new context: new,or one of the outer frame
  have split:∀ x ca,(cellsFrom (C + 1) scope.names (clOf c.env scope.names [])).lookup x = some ca -> ((x,ca) ∈ cellsFrom (C + 1) scope.names []) ∨ (c.env.cells.lookup x = some ca):=fun x ca e=>by
    have:=mem_of_lookup e
    rw [app] at this
    rcases List.mem_append.mp this with h | h
    · exact .inl h
    · exact .inr (clOf_mem scope.names [] (by intro _ h;cases h) _ h)
  have old:∀ x ca,c.env.cells.lookup x = some ca -> ca < C:=fun x ca e=>by
    refine xA0_1 (hs.free x ca e) ?_;intro _ hT1;refine xA1_0 hT1 ?_;(try clear hT1);intro oc h
    rw [hC]
    exact Nat.lt_of_lt_of_le (Heap.lt_size h) hsz
  have CO':CxOk G (cxK c scope C own fr):=by
    refine ⟨KN.kind,CO.glob,CO.blt,KN.nd,.head _,fun x ca hx e=>?_,fun x y ca h1 h2=>?_,CO.frame,fun q=>?_⟩
    · have hx':scope.names.lookup x = some .cell:=by
        have:(scope.names.lookup x == some NameKind.cell) = true:=hx
        cases q:scope.names.lookup x with
        | none => rw [q] at this;cases this
        | some k => rw [q] at this;cases k <;> first | rfl | cases this
      refine xA1_0 (Option.isSome_iff_exists.mp (cellsFrom_some scope.names (C + 1) [] (.inl hx'))) ?_;intro cb hcb
      have e':(cellsFrom (C + 1) scope.names (clOf c.env scope.names [])).lookup x = some ca:=e
      rw [app,lookup_app,hcb] at e'
      cases e'
      have hm:=mem_of_lookup hcb
      refine ⟨.tail _ (List.mem_map_of_mem (f:=(·.2)) hm),fun q=>Nat.lt_irrefl C (Nat.lt_of_lt_of_eq (ok.empty _ _ hm).2 (show ca = C from q)),fun q=>?_⟩
      refine xA0_1 (funFrames_mem hs.fr q) ?_;intro _ hT1;refine xA1_1 hT1 ?_;(try clear hT1);intro ob h _
      have:=fresh _ (Nat.le_of_lt (ok.empty _ _ hm).2)
      rw [h] at this;cases this
    · rcases split x ca h1 with g1 | g1 <;> rcases split y ca h2 with g2 | g2
      · exact name_of_addr ok.apart g1 g2
      · exact absurd (old _ _ g2) (Nat.not_lt.mpr (Nat.le_of_lt (ok.empty _ _ g1).2))
      · exact absurd (old _ _ g1) (Nat.not_lt.mpr (Nat.le_of_lt (ok.empty _ _ g2).2))
      · exact CO.apart x y ca g1 g2
    · refine xA1_1 hs.tab ?_;intro ps hP _
      have:=fresh _ (hown _ q)
      rw [hP] at this;cases this
  refine (xI0_3 CO' ⟨hs.gens,hs.os,fun b y e=>hk b y (hs.base b y e),fun a mm e=>?_,fun a ha=>?_,fun x ca e=>?_,hs.tab.keeps hk,⟨(xI1_1 _ hns (fun i x v hi hkx hv hne=>?_)),fun i x hi hx=>?_⟩,hs.fr.of_keeps fun b y e zz=>(xI1_1 y (hk b y e) rfl),⟨fun b y e zz zz zz zz=>e,fun b y e zz zz=>⟨y.slots,e⟩,fun b y zz e=>e,fun b y e=>⟨y,e⟩⟩⟩ (fun b hb=>fresh3 b (hown b hb)) hk4)
  · refine xA0_4 (hs.own a mm e) ?_;intro h1 h2 h3' h4' hT1;refine xA1_1 hT1 ?_;(try clear hT1);intro ob h5 h6
    exact (xI0_4 h1 h2 (fun q=>(by rw [fresh a (hown a q)] at h5;cases h5)) h4' (xI1_1 ob (hk _ _ h5) h6))
  · refine ⟨none_of_keeps hs.base (fresh a (hown a ha)),?_⟩
    rcases List.mem_cons.mp ha with rfl | ha
    · obtain ⟨ol,_,_,h1,_⟩:=hns;exact ⟨ol,h1⟩
    · refine xA1_1 (List.mem_map.mp ha) ?_;intro p hp hT1;subst hT1
      refine xA1_1 ((ok.empty p.1 p.2 hp).1) ?_;intro oc h1 _
      exact ⟨oc,h1⟩
  · rcases split x ca e with h | h
    · refine xA1_1 ((ok.empty _ _ h).1) ?_;intro oc h1 _
      exact ⟨(hs.fresh (fresh ca (Nat.le_of_lt (ok.empty _ _ h).2))).1,⟨ oc,h1⟩⟩
    · refine xA0_1 (hs.free x ca h) ?_;intro h1 hT1;refine xA1_0 hT1 ?_;(try clear hT1);intro oc h2
      exact ⟨h1,⟨ oc,hk _ _ h2⟩⟩
  · exfalso
    have hi':(own ++ fr.map (·.1))[i]? = some x:=hi
    have hv':(own.map (fun zz=>V.unb) ++ fr.map (fun p=>ls.getD p.2 .unb))[i]? = some v:=hv
    by_cases q:i < own.length
    · rw [List.getElem?_append_left (by rw [List.length_map];exact q),List.getElem?_map] at hv'
      refine xA1_1 (Option.map_eq_some_iff.mp hv') ?_;intro _ _ hT1;subst hT1
      exact hne rfl
    · rw [List.getElem?_append_right (Nat.not_lt.mp q),List.getElem?_map] at hi'
      refine xA1_1 (Option.map_eq_some_iff.mp hi') ?_;intro p hp hT1;subst hT1
      refine xA0_3 (KN.hfr p (List.mem_of_getElem? hp)) ?_;intro _ _ h3 _
      refine xA1_1 (lookup_relabel (env:=c.env) h3 (by decide)) ?_;intro k' h5 h6
      have h7:(scope.names.map fun (n,k)=>if (k == NameKind.free && c.env.scope.kind == .function && c.env.kindOf n == some .cell) then (n,NameKind.cell) else (n,k)).lookup p.1 = some .local:=hkx
      rw [h6] at h7;cases h7;exact h5 rfl
  · have hi':(own ++ fr.map (·.1))[i]? = some x:=hi
    have hx':¬ (scope.names.map fun (n,k)=>if (k == NameKind.free && c.env.scope.kind == .function && c.env.kindOf n == some .cell) then (n,NameKind.cell) else (n,k)).lookup x = some .local:=hx
    by_cases q:i < own.length
    · rw [List.getElem?_append_left q] at hi'
      have hc:scope.names.lookup x = some .cell:=(KN.hown x (List.mem_of_getElem? hi')).elim (fun h=>(hx' (lookup_relabel_local h)).elim) id
      refine xA1_0 (Option.isSome_iff_exists.mp (cellsFrom_some scope.names (C + 1) [] (.inl hc))) ?_;intro cb hcb
      refine (xI2_2 cb none ?_ ((ok.empty _ _ (mem_of_lookup hcb)).1) (fun v hv hne=>?_))
      · show (cellsFrom (C + 1) scope.names (clOf c.env scope.names [])).lookup x = some cb
        rw [app,lookup_app,hcb]
      · have hv':(own.map (fun zz=>V.unb) ++ fr.map (fun p=>ls.getD p.2 .unb))[i]? = some v:=hv
        rw [List.getElem?_append_left (by rw [List.length_map];exact q),List.getElem?_map] at hv'
        refine xA1_1 (Option.map_eq_some_iff.mp hv') ?_;intro _ _ hT1;subst hT1
        exact (hne rfl).elim
    · rw [List.getElem?_append_right (Nat.not_lt.mp q),List.getElem?_map] at hi'
      refine xA1_1 (Option.map_eq_some_iff.mp hi') ?_;intro p hp hT1;subst hT1
      refine xA0_3 (KN.hfr p (List.mem_of_getElem? hp)) ?_;intro h1 h2 h3' h3m
      refine xA2_2 (hs.frame.cell p.2 p.1 h1 h2) ?_;intro ca u g1 g2 g3
      refine (xI2_2 ca u ?_ (g2.keeps hk) (fun v hv hne=>?_))
      · show (cellsFrom (C + 1) scope.names (clOf c.env scope.names [])).lookup p.1 = some ca
        rw [app,lookup_app]
        have:(cellsFrom (C + 1) scope.names []).lookup p.1 = none:=by
          cases q2:(cellsFrom (C + 1) scope.names []).lookup p.1 with
          | none => rfl
          | some cb =>
            have:=KN.loc _ (cellsFrom_names_mem _ _ (mem_of_lookup q2))
            rw [h3'] at this;cases this
        rw [this]
        exact clOf_lookup g1 h3m
      · have hv':(own.map (fun zz=>V.unb) ++ fr.map (fun p=>ls.getD p.2 .unb))[i]? = some v:=hv
        rw [List.getElem?_append_right (by rw [List.length_map];exact Nat.not_lt.mp q),List.length_map,List.getElem?_map,hp] at hv'
        have hv2:ls.getD p.2 .unb = v:=by simpa using hv'
        cases q3:ls[p.2]? with
        | none => rw [List.getD_eq_getElem?_getD,q3] at hv2;exact (hne hv2.symm).elim
        | some z => rw [List.getD_eq_getElem?_getD,q3] at hv2;exact g3 v (by rw [q3];exact congrArg some hv2) hne
end
noncomputable def compW {ι:Type} (guard:MH -> Prop) (aw:ι -> List V -> QL -> MH -> Prop) (t:WT) (e:WE):List ι -> List V -> List V -> (List V -> MH -> Prop) -> MH -> Prop
  | [],acc,ls,Q,H => guard H /\ Q acc H
  | x :: xs,acc,ls,Q,H => guard H /\ aw x ls (fun ls1 H1 => t ls1 (fun b H2 => br b (e ls1 (fun v H3 => compW guard aw t e xs (acc ++ [v]) ls1 Q H3) (fun zz zz => False) H2) (compW guard aw t e xs acc ls1 Q H2)) (fun zz zz => False) H1) H
section
variable {prog:Program} {w:World} {A:Around} {R:Result -> Shared -> Prop} {s:Shared}
theorem comp_loop {elt target iter:Expr} {ifs:List Expr} {scope:Scope} {pos:Pos} {it acc:Value} {env:Env} (I:Nat -> Shared -> Prop) (E:Value -> Shared -> Prop) (hE:∀ e s,E e s -> notedBy (model prog w) A env (fun e s'=>R (.error e) s') e s)
    (turn:∀ n s,I n s -> wpAny (model prog w) A (pyNext it) (fun r s₁=>match r with
      | none => R (.ok .next) s₁
      | some v => wpAny (model prog w) A (letOwnedTupleGo target it v) (fun zz s₁' => wpAny (model prog w) A (assign target env v) (fun zz s₂ =>
          wpAny (model prog w) A (forIn ifs true fun c r=>if r = true then do let ok <- isTrue c env (eval c env);pure (ForInStep.yield ok) else pure (ForInStep.yield r)) (fun ok s₃ =>
            if ok = true then wpAny (model prog w) A (eval elt env) (fun x s₄ =>
              wpAny (model prog w) A (call (.builtin "list.append") [acc,x]) (fun zz s₅=>∃ m,m < n /\ I m s₅) E s₄) E s₃
            else ∃ m,m < n /\ I m s₃) E s₂) E s₁') E s₁) E s)
    (n:Nat) (h:I n s) :
    codeAny (model prog w) A (.compLoop (.ListComp elt [⟨target,iter,ifs,0⟩] scope pos) 0 it acc env) R s:=by
  refine codeAny_loop rfl I (fun n s hI=>?_) n h
  show wpAny _ A ((compTurn (.ListComp elt [⟨target,iter,ifs,0⟩] scope pos) 0 it acc env).onRaise (fun x=>do noteFrame x env;theTreesLotGoes x)) _ _ s
  refine wpAny_noted ?_
  rw [compTurn_list]
  refine wpAny_bind (wpAny_standAt (wpAny_bind (wpAny_mono (turn n s hI) (fun r s₁ h₁=>?_) fun zz zz h'=>hE _ _ h')))
  cases r with
  | none => exact wpAny_pure h₁
  | some v =>
    refine wpAny_bind (wpAny_mono h₁ (fun zz s₁' h₁'=>?_) fun zz zz h'=>hE _ _ h')
    refine wpAny_bind (wpAny_mono h₁' (fun zz s₂ h₂=>wpAny_bind (wpAny_mono h₂ (fun ok s₃ h₃=>?_) fun zz zz h'=>hE _ _ h')) fun zz zz h'=>hE _ _ h')
    cases ok with
    | false => exact wpAny_pure ⟨rfl,h₃⟩
    | true =>
      exact wpAny_bind (wpAny_bind (wpAny_mono h₃ (fun x s₄ h₄=>wpAny_bind (wpAny_mono h₄ (fun zz s₅ h₅=>wpAny_pure (wpAny_pure ⟨rfl,h₅⟩)) fun zz zz h'=>hE _ _ h')) fun zz zz h'=>hE _ _ h'))
end
section
variable {G:Gl} {c:Cx} {n:Nat}
noncomputable def CTest (G:Gl) (c:Cx) (n:Nat) (ifs:List Expr) (t:WT):Prop:=(ifs = [] /\ t = tTrue) ∨ ∃ e,ifs = [e] /\ ST G c n e t
theorem ct_none:CTest G c n [] tTrue:=.inl ⟨rfl,rfl⟩
theorem ct_one {e:Expr} {t:WT} (h:ST G c n e t):CTest G c n [e] t:=.inr (xI1_1 e rfl h)
theorem ctest_ok {ifs:List Expr} {t:WT} (h:CTest G c n ifs t) {A:Around} {o:Org} {s:Shared} {H:MH} {ls:List V} {Q:QB} {X:XP} (hA:AOk n c A) (hs:St G c o H ls s) (hw:t ls Q X H) :
    wpAny (model G.prog G.w) A (forIn ifs true fun e r=>if r = true then do let ok <- isTrue e c.env (eval e c.env);pure (ForInStep.yield ok) else pure (ForInStep.yield r)) (RB G c o ls Q) (PX G c o ls X) s:=by
  rcases h with ⟨rfl,rfl⟩ | ⟨e,rfl,h⟩
  · exact wpAny_tests_nil (xI1_1 H hs hw)
  · exact wpAny_tests_one (h A o s H ls Q X hA hs hw)
theorem New.hid {o:Org} {H:MH} {h h':Heap} {a:Addr} (x:New G c o H h a) {H':MH} (hH:H' a = none) (hP:∀ ps,h'.get? G.P = some (tabObj ps) -> h.get? G.P = some (tabObj ps)):New G c o H' h' a:=x.mono hH hP
theorem New.kept {o:Org} {H H':MH} {ls':List V} {s s':Shared} {b:Addr} {l:List Addr} {y:Obj} (x:New G c o H s.heap b) (hs:St G c o H' ls' s') (k:Kept G c l H s H' s') (hb:b ∉ l) (hy:s.heap.get? b = some y) (hnf:∀ vs,y.data ≠ .fields vs):New G c o H' s'.heap b /\ s'.heap.get? b = some y:=by
  refine xA0_1 (k b y hy x.H x.P x.own x.frm hb) ?_;intro k1 k2
  refine ⟨⟨x.base,k2,x.P,x.own,x.frm,x.org,x.cell,fun ps hp p hpm q=>?_⟩,k1⟩
  refine xA1_2 hs.tab ?_;intro ps' h1 h2 h3
  rw [hp] at h1;cases h1
  refine xA4_3 (h3 p hpm _ q) ?_;intro ca oc vs t e1 e2 e3 e4
  cases e1
  rw [k1] at e2;cases e2
  exact hnf _ e3
theorem comp_core (CO:CxOk G c) {target iter elt:Expr} {ifs:List Expr} {scope:Scope} {pos:Pos} {it:Value} {ι:Type} {l:List Addr} {Src:List ι -> Heap -> Prop} {guard:MH -> Prop} {aw:ι -> List V -> QL -> MH -> Prop} (I:IterOk G c n target it l Src guard aw)
    {t:WT} {we:WE} (ht:CTest G c n ifs t) (he:SE G c n elt we) {A:Around} {o:Org} {D:Addr} (hDl:D ∉ l) {Q:List V -> MH -> Prop} {R:Result -> Shared -> Prop} {s:Shared} {H:MH} {ls:List V} {xs:List ι} (hA:AOk n c A) (hs:St G c o H ls s)
    (hn:∀ b ∈ D :: l,New G c o H s.heap b) (hsrc:Src xs s.heap) (hD:s.heap.get? D = some (listOf #[] 0)) (hsz:xs.length <= sizeLine) (h:compW guard aw t we xs [] ls Q H)
    (hR:∀ s' H' ls' items k,St G c o H' ls' s' -> New G c o H' s'.heap D -> s'.heap.get? D = some (listOf items k) -> Q (items.toList.map er) H' -> R (.ok .next) s') :
    codeAny (model G.prog G.w) A (.compLoop (.ListComp elt [⟨target,iter,ifs,0⟩] scope pos) 0 it (.ref D) c.env) R s:=by
  refine comp_loop (fun k s=>∃ xs H ls items m,k = xs.length /\ St G c o H ls s /\ (∀ b ∈ D :: l,New G c o H s.heap b) /\ Src xs s.heap /\ s.heap.get? D = some (listOf items m) /\ items.size + xs.length <= sizeLine /\ compW guard aw t we xs (items.toList.map er) ls Q H) (fun zz zz=>False) (fun zz zz h=>h.elim) ?_ xs.length
    (xI5_6 xs H ls (#[]) 0 rfl hs hn hsrc hD (by simpa using hsz) h)
  intro k s hT1;refine xA5_0 hT1 ?_;(try clear hT1);intro xs H ls items m hT2;refine xA0_6 hT2 ?_;(try clear hT2);intro hT3;subst hT3;intro hs hn hsrc hD hsz h
  have hnl:∀ b ∈ l,New G c o H s.heap b:=fun b hb=>hn b (.tail _ hb)
  have nD:=hn D (.head _)
  have nf:∀ (its:Array Value) (k:Nat) vs,(listOf its k).data ≠ .fields vs:=fun zz zz zz e=>nomatch e
  cases xs with
  | nil =>
    refine wpAny_mono (I.fin A o s H ls _ hA hs hnl h.1 hsrc) (fun r s' hF1=>xA0_2 hF1 fun h1 h2 h3=>?_) fun zz zz e=>e
    subst h1
    refine xA0_1 (nD.kept h2 h3 hDl hD (nf _ _)) ?_;intro g1 g2
    exact hR s' H ls items m h2 g1 g2 h.2
  | cons x xs =>
    refine wpAny_mono (I.turn A o s H ls _ _ x xs hA hs hnl h.1 hsrc h.2) (fun r s1 hF1=>xA1_1 hF1 fun v h1 h2=>?_) fun zz zz e=>e
    subst h1
    refine wpAny_mono h2 (fun zz s1' h3=>wpAny_mono h3 (fun zz s2 hF1=>xA2_4 hF1 fun ls' H' hs2 hn2 hsrc2 hk2 h4=>?_) fun zz zz e=>e) fun zz zz e=>e
    refine xA0_1 (nD.kept hs2 hk2 hDl hD (nf _ _)) ?_;intro nD2 hD2
    have px:∀ {o':Org} {ls':List V} {e s'},PX G c o' ls' (fun zz zz=>False) e s' -> False:=fun hF1=>xA3_3 hF1 fun zz zz zz zz zz hx zz=>hx
    refine wpAny_mono (ctest_ok ht (o:=here H' s2) hA hs2.rebase h4) (fun ok s3 hF1=>xA1_1 hF1 fun H3 hs3 h5=>?_) fun zz zz e=>px e
    have keep3:∀ b ∈ l,∀ y,s2.heap.get? b = some y -> s3.heap.get? b = some y:=fun b hb y e=>kept_new hs3 (hn2 b hb) e
    have hsrc3:=I.keep xs _ _ hsrc2 keep3
    have hn3:∀ b ∈ l,New G c o H3 s3.heap b:=fun b hb=>(hn2 b hb).later hs2 hs3 (I.live _ _ hsrc2 b hb) (I.nocode _ _ hsrc3 b hb)
    refine xA0_1 (nD2.kept (hs2.trans hs3) (kept_st (o:=o) hs3) (fun h=>nomatch h) hD2 (nf _ _)) ?_;intro nD3 hD3
    cases ok with
    | false =>
      rw [if_neg (by decide)]
      refine (xI1_1 xs.length (by simp) (xI5_6 xs H3 ls' items m rfl (hs2.trans hs3) (fun b hb=>?_) hsrc3 hD3 (by simp only [List.length_cons] at hsz;exact oA285 hsz) h5))
      rcases List.mem_cons.mp hb with rfl | hb
      · exact nD3
      · exact hn3 b hb
    | true =>
      rw [if_pos rfl]
      have hs3':=hs2.trans hs3
      refine wpAny_mono (he A (here H3 s3) s3 H3 ls' _ _ hA hs3'.rebase h5) (fun y s4 hF1=>xA1_1 hF1 fun H4 hs4 h6=>?_) fun zz zz e=>px e
      have keep4:∀ b ∈ l,∀ y,s3.heap.get? b = some y -> s4.heap.get? b = some y:=fun b hb y e=>kept_new hs4 (hn3 b hb) e
      have hsrc4:=I.keep xs _ _ hsrc3 keep4
      have hn4:∀ b ∈ l,New G c o H4 s4.heap b:=fun b hb=>(hn3 b hb).later hs3' hs4 (I.live _ _ hsrc3 b hb) (I.nocode _ _ hsrc4 b hb)
      refine xA0_1 (nD3.kept (hs3'.trans hs4) (kept_st (o:=o) hs4) (fun h=>nomatch h) hD3 (nf _ _)) ?_;intro nD4 hD4
      have hs4':=hs3'.trans hs4
      refine wpAny_list_append_plain (l:=D) ⟨_,hD4⟩ (fun h' hp' hsb=>?_) (by exact oA295 hsz)
      refine xA1_0 hp' ?_;(try clear hp');intro m' hD5
      refine xA0_1 (hs4'.hiddenN (s':={ s4 with heap:=h' }) CO nD4 (fun b y hb e=>(hsb.2 b hb).trans e) rfl rfl) ?_;intro hs5 hn5
      refine (xI1_1 xs.length (by simp) (xI5_6 xs H4 ls' (items.push y) m' rfl hs5 (fun b hb=>hn5 b ?_) (I.keep xs _ _ hsrc4 (fun b hb y e=>(hsb.2 b (fun q=>hDl (q ▸ hb))).trans e)) hD5 (by simp only [List.length_cons] at hsz;rw [Array.size_push];lia) ?_))
      · rcases List.mem_cons.mp hb with rfl | hb
        · exact nD4
        · exact hn4 b hb
      · rw [Array.toList_push,List.map_append];exact h6
theorem St.backL {c':Cx} {o o':Org} {H H':MH} {ls ls':List V} {s s':Shared} {l:List Addr} (C:CxOk G c) (x:St G c o H ls s) (hl:∀ b ∈ l,New G c o H s.heap b) (hlf:∀ b ∈ l,∀ ps,s.heap.get? b ≠ some (tabObj ps)) (hk:∀ b y,s.heap.get? b = some y -> b ∉ l -> o'.h.get? b = some y) (ho':o'.H = H)
    (hfr:∀ b ∈ c.frames,b ∈ c'.frames /\ b ∉ c'.own) (hfr':∀ b ∈ c'.frames,b ∈ c.frames ∨ s.heap.get? b = none) (hown':∀ b ∈ c'.own,s.heap.get? b = none)
    (hst:s'.heap.FunFrames G.h₀ c'.stack -> s'.heap.FunFrames G.h₀ c.stack) (y:St G c' o' H' ls' s'):St G c o H' ls s':=by
  have hH:∀ b,H b = none -> o'.H b = none:=fun b e=>by rw [ho'];exact e
  have claim:∀ b z,s.heap.get? b = some z -> b ∉ l -> H b = none -> H' b = none:=fun b z e hb q=>y.tr.claim b z (hk b z e hb) (hH b q)
  have ex:∀ b z,s.heap.get? b = some z -> b ∉ l -> ∃ u,s'.heap.get? b = some u:=fun b z e hb=>y.tr.ex b z (hk b z e hb)
  have up:∀ b z,s.heap.get? b = some z -> b ∉ l -> H b = none -> b ≠ G.P -> ∃ sl,s'.heap.get? b = some { z with slots:=sl }:=fun b z e hb q hP=>by
    have no:b ∉ c'.own:=fun q=>by rw [hown' b q] at e;cases e
    by_cases q2:b ∈ c'.frames
    · exact y.tr.frm b z (hk b z e hb) q2 no
    · exact ⟨z.slots,y.tr.keep b z (hk b z e hb) (hH b q) hP no q2⟩
  have nH:∀ b ∈ c.own,H b = none:=fun b hb=>by
    cases q:H b with
    | none => rfl
    | some m => exact ((x.own b m q).2.2.1 hb).elim
  have lo:∀ b ∈ c.own,b ∉ l:=fun b hb q=>(hl b q).own hb
  refine xA1_1 x.tab ?_;intro ps hP _
  have neP:∀ b z,s.heap.get? b = some z -> (∀ vs,z.data ≠ .fields vs) -> b ≠ G.P:=fun b z e hd q=>by rw [q,hP] at e;cases e;exact hd _ rfl
  refine ⟨y.gens,y.os,y.base,fun a m e=>?_,fun b hb=>?_,fun z ca e=>?_,y.tab,⟨?_,fun i z hi hz=>?_⟩,hst y.fr,?_⟩
  · refine xA0_4 (y.own a m e) ?_;intro h1 h2 h3 h4 hT1;refine xA1_1 hT1 ?_;(try clear hT1);intro ob h5 h6
    refine (xI0_4 h1 h2 (fun q=>?_) (fun q=>h4 (hfr a q).1) (xI1_1 ob h5 h6))
    refine xA0_1 (x.ownEx a q) ?_;intro _ hT1;refine xA1_0 hT1 ?_;(try clear hT1);intro ob' g
    rw [claim a ob' g (lo a q) (nH a q)] at e;cases e
  · refine xA0_1 (x.ownEx b hb) ?_;intro h1 hT1;refine xA1_0 hT1 ?_;(try clear hT1);intro ob h2
    exact ⟨h1,ex b ob h2 (lo b hb)⟩
  · refine xA0_1 (x.free z ca e) ?_;intro h1 hT1;refine xA1_0 hT1 ?_;(try clear hT1);intro oc h2
    have:=fun q=>(hl ca q).cell z e
    exact ⟨claim ca oc h2 this h1,ex ca oc h2 this⟩
  · refine xA1_1 x.frame.loc ?_;intro m hT1 hl';refine xA3_3 hT1 ?_;(try clear hT1);intro ol es ep n1 n2 n3 n4
    refine xA1_0 (up _ _ n1 (lo _ C.loc) (nH _ C.loc) (neP _ _ n1 (fun vs q=>by rw [n2] at q;cases q))) ?_;intro sl h3
    exact (xI1_1 m (xI3_3 _ es ep h3 n2 n3 n4) hl')
  · refine xA2_2 (x.frame.cell i z hi hz) ?_;intro ca u h1 hT1 h4;refine xA1_1 hT1 ?_;(try clear hT1);intro oc h2 h2'
    refine xA1_0 (up ca oc h2 (fun q=>(hl ca q).cell z h1) (x.free z ca h1).1 (neP _ _ h2 (fun vs q=>by rw [h2'] at q;cases q))) ?_;intro sl h5
    exact (xI2_2 ca u h1 (xI1_1 _ h5 h2') h4)
  · refine ⟨fun b z h1 h2 h3 h4 h5=>?_,fun b z h1 h2 h3=>?_,fun b z h1 h2=>?_,fun b z h1=>?_⟩
    · have e:=x.tr.keep b z h1 h2 h3 h4 h5
      refine y.tr.keep b z (hk b z e (fun q=>(hl b q).org z h1)) (hH b (x.tr.claim b z h1 h2)) h3 (fun q=>by rw [hown' b q] at e;cases e) (fun q=>?_)
      rcases hfr' b q with q | q
      · exact h5 q
      · rw [q] at e;cases e
    · refine xA1_0 (x.tr.frm b z h1 h2 h3) ?_;intro sl e
      refine xA1_0 (y.tr.frm b _ (hk b _ e (fun q=>(hl b q).org z h1)) (hfr b h2).1 (hfr b h2).2) ?_;intro sl' e'
      exact ⟨sl',e'⟩
    · refine xA1_0 (x.tr.ex b z h1) ?_;intro u hu
      exact claim b u hu (fun q=>(hl b q).org z h1) (x.tr.claim b z h1 h2)
    · refine xA1_0 (x.tr.ex b z h1) ?_;intro u hu
      exact ex b u hu (fun q=>(hl b q).org z h1)
theorem St.adopt {o:Org} {H:MH} {ls:List V} {s:Shared} {D:Addr} {m:MO} {ob:Obj} (x:St G c o H ls s) (hn:New G c o H s.heap D) (hob:s.heap.get? D = some ob) (hm:ORel m ob):St G c o (upd H D m) ls s:=by
  refine { x with own:=fun b mb e=>?_,free:=fun z ca e=>?_,tr:={ x.tr with claim:=fun b z h1 h2=>?_ } }
  · by_cases q:b = D
    · subst q;rw [upd_self] at e;cases e
      exact (xI0_4 hn.base hn.P hn.own hn.frm (xI1_1 ob hob hm))
    · rw [upd_ne _ _ q] at e;exact x.own b mb e
  · refine xA0_1 (x.free z ca e) ?_;intro h1 hT1;refine xA1_0 hT1 ?_;(try clear hT1);intro oc h2
    rw [upd_ne _ _ (fun q=>hn.cell z (by rw [<- q];exact e))]
    exact ⟨h1,⟨ oc,h2⟩⟩
  · rw [upd_ne _ _ (fun q=>hn.org z (by rw [<- q];exact h1))];exact x.tr.claim b z h1 h2
theorem St.newLater {o:Org} {H H':MH} {ls ls':List V} {s s':Shared} {D:Addr} {ob:Obj} (x:St G c o H ls s) (y:St G c o H' ls' s') (e:s.heap.get? D = none) (hH:H' D = none) (hob:s'.heap.get? D = some ob) (hnf:∀ vs,ob.data ≠ .fields vs):New G c o H' s'.heap D:=by
  refine xA0_5 (x.fresh e) ?_;intro f1 f2 f3 f4 f5 f6
  refine ⟨f2,hH,f3,f4,f5,fun y q=>f6 D y q rfl,fun z q=>?_,fun ps hp p hpm q=>?_⟩
  · obtain ⟨_,oc,h1⟩:=x.free z D q;rw [e] at h1;cases h1
  · refine xA1_2 y.tab ?_;intro ps' h1 h2 h3
    rw [hp] at h1;cases h1
    refine xA4_3 (h3 p hpm _ q) ?_;intro ca oc vs t e1 e2 e3 e4
    cases e1
    rw [hob] at e2;cases e2
    exact hnf _ e3
theorem New.adopt {o:Org} {H:MH} {h:Heap} {C D:Addr} {m:MO} (x:New G c o H h C) (hne:C ≠ D):New G c o (upd H D m) h C:={ x with H:=(upd_ne _ _ hne).trans x.H }
theorem hide_get {h:Heap} {l:List Addr} {b:Addr} {y:Obj} (e:h.get? b = some y) (hb:b ∉ l):(hideAll h l).get? b = some y:=hideAll_get l e hb
theorem comp_block (CO:CxOk G c) {scope:Scope} {own:List Str} {fr:List (Str × Nat)} (KN:KNames c scope own fr) {target iter elt:Expr} {ifs:List Expr} {pos:Pos} {ι:Type} {K:ItK ι} {aw:ι -> List V -> QL -> MH -> Prop} {t:WT} {we:WE} (hself:ISelf G K)
    (hk:∀ C,CxOk G (cxK c scope C own fr) -> IOk G (cxK c scope C own fr) n target K aw /\ CTest G (cxK c scope C own fr) n ifs t /\ SE G (cxK c scope C own fr) n elt we)
    {A:Around} {o:Org} {s:Shared} {H:MH} {ls:List V} {l:List Addr} {Src:List ι -> Heap -> Prop} {guard:MH -> Prop} {it:Value} {xs:List ι} {Q:List V -> MH -> Prop} {E:Value -> Shared -> Prop} {RR:Value -> Addr -> Result -> Shared -> Prop}
    (hA:AOk n c A) (hs:St G c o H ls s) (hK:K it l Src guard) (hn:∀ b ∈ l,New G c o H s.heap b) (hsrc:Src xs s.heap) (hsz:xs.length <= sizeLine) (h:compW guard aw t we xs [] (compLs own fr ls) Q H)
    (hlive:∀ b ∈ l,∃ y,s.heap.get? b = some y) (hlf:∀ b ∈ l,∀ ps,s.heap.get? b ≠ some (tabObj ps)) (hkeep:∀ xs h h',Src xs h -> (∀ b ∈ l,∀ y,h.get? b = some y -> h'.get? b = some y) -> Src xs h')
    (hR:∀ D C s' H' ys,St G c o (upd H' D (.list ys)) ls s' -> H' D = none -> Q ys H' -> New G c o (upd H' D (.list ys)) s'.heap C -> (∃ m,s'.heap.Ns C m) -> RR (.ref D) C (.ok .next) s') :
    wpAny (model G.prog G.w) A (newList []) (fun acc s₃=>wpAny (model G.prog G.w) A (newFunctionEnv scope c.env.globals (clOf c.env scope.names []) [] c.env.qual none .none (some c.env)) (fun cenv s₄ =>
      codeAny (model G.prog G.w) A (.compStart (.ListComp elt [⟨target,iter,ifs,0⟩] scope pos) 0 it acc { cenv with scope:=relabel scope c.env }) (RR acc cenv.locals) s₄) E s₃) E s:=by
  refine wpAny_newObj_type (newEnv_comp ?_)
  generalize hh3:s.heap.push { cls:=.type "list",dict:=none,data:=.seq ([]:List Value).toArray } = h3
  have hsz3:h3.objs.size = s.heap.objs.size + 1:=by rw [<- hh3,Heap.size_push]
  have hk3:∀ b y,s.heap.get? b = some y -> h3.get? b = some y:=fun b y e=>hh3 ▸ Heap.get?_push_of_some _ e
  have hD3:h3.get? s.heap.objs.size = some (listOf #[] 0):=hh3 ▸ Heap.get?_push_size _ rfl
  refine xA0_3 (comp_ctx CO KN (C:=h3.objs.size) hs hk3 (by rw [hsz3];exact Nat.le_succ _) rfl rfl) ?_;intro CO' hs4 hown hk4
  generalize hh4:pushCells (h3.push { cls:=.type "dict",data:=.dict #[] }) scope.names = h4 at hs4 hk4 ⊢
  have hk04:∀ b y,s.heap.get? b = some y -> h4.get? b = some y:=fun b y e=>hk4 b y (hk3 b y e)
  refine xA0_2 (hk h3.objs.size CO') ?_;intro I ht he
  have hDl:s.heap.objs.size ∉ l:=fun q=>by
    refine xA1_0 (hlive _ q) ?_;intro y hy
    exact Nat.lt_irrefl _ (Heap.lt_size hy)
  have hown0:∀ b ∈ (cxK c scope h3.objs.size own fr).own,s.heap.get? b = none:=fun b hb=>none_of_keeps hk3 (hown b hb)
  have hsk4:St G (cxK c scope h3.objs.size own fr) ⟨H,hideAll h4 (s.heap.objs.size :: l)⟩ H (compLs own fr ls) { s with heap:=h4 } :=
    { hs4 with tr:=⟨fun b y e zz zz zz zz=>of_hideAll _ e,fun b y e zz zz=>⟨y.slots,of_hideAll _ e⟩,fun b y zz e=>e,fun b y e=>⟨y,of_hideAll _ e⟩⟩ }
  have hP:∀ ps,h4.get? G.P = some (tabObj ps) -> s.heap.get? G.P = some (tabObj ps):=fun ps hp=>by
    refine xA1_1 hs.tab ?_;intro ps' q1 _
    have:=hk04 _ _ q1
    rw [hp] at this;cases this;exact q1
  have hcells:∀ b,(∀ x,c.env.cells.lookup x ≠ some b) -> b ∉ (cxK c scope h3.objs.size own fr).own -> ∀ x,(cxK c scope h3.objs.size own fr).env.cells.lookup x ≠ some b:=fun b h1 h2 x e=>by
    have:=mem_of_lookup e
    have this:(x,b) ∈ cellsFrom (h3.objs.size + 1) scope.names (clOf c.env scope.names []):=this
    rw [cellsFrom_app] at this
    rcases List.mem_append.mp this with h | h
    · exact h2 (.tail _ (List.mem_map_of_mem (f:=(·.2)) h))
    · exact h1 x (clOf_mem scope.names [] (by intro _ h;cases h) _ h)
  have hn4:∀ b ∈ s.heap.objs.size :: l,New G (cxK c scope h3.objs.size own fr) ⟨H,hideAll h4 (s.heap.objs.size :: l)⟩ H h4 b:=fun b hb=>by
    have nb:New G c o H h4 b /\ b ∉ (cxK c scope h3.objs.size own fr).own:=by
      rcases List.mem_cons.mp hb with rfl | hb
      · exact ⟨hs.newOf (size_none _) hP,fun q=>by rw [hown _ q] at hD3;cases hD3⟩
      · refine xA1_0 (hlive b hb) ?_;intro y hy
        exact ⟨(hn b hb).mono (hn b hb).H hP,fun q=>by rw [hown0 _ q] at hy;cases hy⟩
    refine xA0_1 nb ?_;(try clear nb);intro nb no
    exact ⟨nb.base,nb.H,nb.P,no,nb.frm,fun x q=>(by
      have:(hideAll h4 (s.heap.objs.size :: l)).get? b = some x:=q
      rw [hideAll_none _ hb] at this;cases this),hcells b nb.cell no,nb.tab⟩
  have core:codeAny (model G.prog G.w) A (.compLoop (.ListComp elt [⟨target,iter,ifs,0⟩] scope pos) 0 it (.ref s.heap.objs.size) (cxK c scope h3.objs.size own fr).env) (RR (.ref s.heap.objs.size) h3.objs.size) { s with heap:=h4 }:=by
    refine comp_core CO' (I _ _ _ _ hK) ht he hDl (A:=A) hA hsk4 hn4 (hkeep _ _ _ hsrc fun b hb y e=>hk04 b y e) (hk4 _ _ hD3) hsz h fun s' H' ls' items k hs' nD hD hq=>?_
    have fr0:(cxK c scope h3.objs.size own fr).frames = c.frames:=rfl
    have back:St G c o H' ls s':=hs.backL (c':=cxK c scope h3.objs.size own fr) (o':=⟨H,hideAll h4 (s.heap.objs.size :: l)⟩) CO hn hlf (fun b y e hb=>hideAll_get _ (hk04 b y e) (fun q=>by
        rcases List.mem_cons.mp q with rfl | q
        · rw [size_none] at e;cases e
        · exact hb q)) rfl (fun b hb=>⟨hb,fun q=>by
        refine xA0_1 (funFrames_mem hs.fr hb) ?_;intro _ hT1;refine xA1_1 hT1 ?_;(try clear hT1);intro ob e _
        rw [hown0 b q] at e;cases e⟩) (fun b hb=>.inl hb) hown0 (fun h=>h) hs'
    have nD':New G c o H' s'.heap s.heap.objs.size:=hs.newLater back (size_none _) nD.H hD (fun vs e=>nomatch e)
    refine xA1_1 hs'.frame.loc ?_;intro mC hnC _
    have hC0:s.heap.get? h3.objs.size = none:=hown0 _ (.head _)
    have hHC:H' h3.objs.size = none:=by
      cases q:H' h3.objs.size with
      | none => rfl
      | some m => exact ((hs'.own _ m q).2.2.1 (.head _)).elim
    refine xA3_3 (id hnC) ?_;intro oC es ep c1 c2 c3 c4
    have nC:New G c o H' s'.heap h3.objs.size:=hs.newLater back hC0 hHC c1 (fun vs e=>by rw [c2] at e;cases e)
    have hne:h3.objs.size ≠ s.heap.objs.size:=by rw [hsz3];exact Nat.succ_ne_self _
    exact hR _ _ s' H' _ (back.adopt nD' hD (xI2_1 items k rfl rfl)) nD.H hq (nC.adopt hne) ⟨mC,hnC⟩
  exact codeAny_compStart_list core (hself _ _ _ _ hK xs _ _ _ _ (hkeep _ _ _ hsrc fun b hb y e=>hk04 b y e) core)
structure IKind (G:Gl) {ι:Type} (K:ItK ι):Prop where
  self:ISelf G K
  live:∀ it l Src g,K it l Src g -> ∀ xs h,Src xs h -> ∀ b ∈ l,∃ y,h.get? b = some y
  notab:∀ it l Src g,K it l Src g -> ∀ xs h,Src xs h -> ∀ b ∈ l,∀ ps,h.get? b ≠ some (tabObj ps)
  keep:∀ it l Src g,K it l Src g -> ∀ xs h h',Src xs h -> (∀ b ∈ l,∀ y,h.get? b = some y -> h'.get? b = some y) -> Src xs h'
end
noncomputable def wComp {ι:Type} (own:List Str) (fr:List (Str × Nat)) (aw:ι -> List V -> QL -> MH -> Prop) (wi:WI ι) (t:WT) (e:WE):WE:=fun ls Q X H =>
  wi ls (fun guard xs H2=>xs.length <= 100000 /\ compW guard aw t e xs [] (compLs own fr ls) (fun ys H3=>∀ D,H3 D = none -> Q (.ref D) (upd H3 D (.list ys))) H2) X H
section
variable {G:Gl} {c:Cx} {n:Nat}
theorem kind_list:IKind G LK:=⟨self_list,fun it l Src g hF1 xs h hx b hb=>xA3_3 hF1 fun I a all h1 h2 h3 h4=>by
    subst h2 h3
    refine xA1_1 hx ?_;(try clear hx);intro i hT1 _;refine xA1_1 hT1 ?_;(try clear hT1);intro ob e _
    rw [List.mem_singleton.mp hb];exact ⟨ob,e⟩,fun it l Src g hF1 xs h hx b hb ps q=>xA3_3 hF1 fun I a all h1 h2 h3 h4=>by
    subst h2 h3
    refine xA1_1 hx ?_;(try clear hx);intro i hT1 _;refine xA1_2 hT1 ?_;(try clear hT1);intro ob e e2 _
    rw [List.mem_singleton.mp hb,e] at q;cases q;exact (nomatch e2),fun it l Src g hF1 xs h h' hx hk=>xA3_3 hF1 fun I a all h1 h2 h3 h4=>by
    subst h2 h3
    refine xA1_1 hx ?_;(try clear hx);intro i hT1 e3;refine xA1_1 hT1 ?_;(try clear hT1);intro ob e e2
    exact (xI1_1 i (xI1_1 ob (hk I (.head _) _ e) e2) e3)⟩
theorem kind_range:IKind G RK:=⟨self_range,fun it l Src g hF1 xs h hx b hb=>xA2_3 hF1 fun I st h1 h2 h3 h4=>by
    subst h2 h3
    refine xA2_1 hx ?_;(try clear hx);intro x k e _
    rw [List.mem_singleton.mp hb];exact ⟨_,e⟩,fun it l Src g hF1 xs h hx b hb ps q=>xA2_3 hF1 fun I st h1 h2 h3 h4=>by
    subst h2 h3
    refine xA2_1 hx ?_;(try clear hx);intro x k e _
    rw [List.mem_singleton.mp hb,e] at q;exact (nomatch q),fun it l Src g hF1 xs h h' hx hk=>xA2_3 hF1 fun I st h1 h2 h3 h4=>by
    subst h2 h3
    refine xA2_1 hx ?_;(try clear hx);intro x k e e2
    exact (xI2_1 x k (hk I (.head _) _ e) e2)⟩
theorem kind_enum:IKind G EK:=⟨self_enum,fun it l Src g hF1 xs h hx b hb=>xA4_3 hF1 fun I e a all h1 h2 h3 h4=>by
    subst h2 h3
    exact esrc_live h hx b hb,fun it l Src g hF1 xs h hx b hb ps q=>xA4_3 hF1 fun I e a all h1 h2 h3 h4=>by
    subst h2 h3
    refine xA0_1 hx ?_;(try clear hx);intro hne hT1;refine xA2_2 hT1 ?_;(try clear hT1);intro i old e1 hT2 e4;refine xA1_2 hT2 ?_;(try clear hT2);intro ob e2 e3 _
    rcases List.mem_cons.mp hb with rfl | hb
    · rw [e1] at q;cases q
    · rw [List.mem_singleton.mp hb,e2] at q;cases q;exact (nomatch e3),fun it l Src g hF1 xs h h' hx hk=>xA4_3 hF1 fun I e a all h1 h2 h3 h4=>by
    subst h2 h3
    exact esrc_keep h h' hx hk⟩
theorem free_cells {scope:Scope} {own:List Str} {fr:List (Str × Nat)} (KN:KNames c scope own fr) {o:Org} {s:Shared} {H:MH} {ls:List V} (hs:St G c o H ls s):∀ p ∈ scope.names,p.2 = .free -> ∃ a,c.env.cells.lookup p.1 = some a:=fun p hp h=>by
  refine xA1_0 (KN.hfree p hp h) ?_;intro i hi
  refine xA0_2 (KN.hfr _ hi) ?_;intro h1 h2 _
  refine xA2_1 (hs.frame.cell i p.1 h1 h2) ?_;intro ca _ h3 _
  exact ⟨ca,h3⟩
theorem r_comp (CO:CxOk G c) {scope:Scope} {own:List Str} {fr:List (Str × Nat)} {target iter elt:Expr} {ifs:List Expr} {pos:Pos} {ι:Type} {K:ItK ι} {aw:ι -> List V -> QL -> MH -> Prop} {wi:WI ι} {t:WT} {we:WE} (IK:IKind G K) (hi:SIt G c n iter K wi)
    (hk:∀ C,CxOk G (cxK c scope C own fr) -> IOk G (cxK c scope C own fr) n target K aw /\ CTest G (cxK c scope C own fr) n ifs t /\ SE G (cxK c scope C own fr) n elt we) (KN:KNames c scope own fr)
    (hfs:∀ x,foldedSetIterable iter c.env x = pure x:=by intro _;rfl):SE G c n (.ListComp elt [⟨target,iter,ifs,0⟩] scope pos) (wComp own fr aw wi t we):=fun A o s H ls Q X hA hs h=>by
  rw [eval_ListComp]
  refine wpAny_comprehension_free (use:=none) rfl hfs (closure_of (free_cells KN hs)) KN.kind (fun x hx he=>by rw [<- he];exact KN.loc x hx) (wpAny_mono (hi A o s H ls _ X hA hs h) (fun x s1 h1=>wpAny_mono h1 (fun it s2 h2=>?_) fun zz zz e=>e) fun zz zz e=>e)
  refine xA5_5 h2 ?_;(try clear h2);intro H2 l Src guard xs hK hs2 hn hsrc hsz hq
  refine comp_block (RR:=fun acc C r s'=>compPost (model G.prog G.w) A (PX G c o ls X) none (RV G c o ls Q) acc C r s') CO KN IK.self hk hA hs2 hK hn hsrc (Nat.le_trans hsz (by decide)) hq (IK.live _ _ _ _ hK _ _ hsrc) (IK.notab _ _ _ _ hK _ _ hsrc) (IK.keep _ _ _ _ hK) fun D C s' H' ys hs' hD hy nC hm=>?_
  refine xA1_0 hm ?_;(try clear hm);intro m hm
  exact (xI1_1 m hm (fun h' hsb=>(xI1_1 _ ((hs'.hiddenN (s':={ s' with heap:=h' }) CO nC (fun b y hb e=>(hsb.2 b hb).trans e) rfl rfl).1) (hy D hD))))
theorem s_asgComp (CO:CxOk G c) {scope:Scope} {own:List Str} {fr:List (Str × Nat)} {target iter elt:Expr} {ifs:List Expr} {pos:Pos} {ι:Type} {K:ItK ι} {aw:ι -> List V -> QL -> MH -> Prop} {wi:WI ι} {t:WT} {we:WE} (i:Nat) {y:Str} {py spos:Pos} (IK:IKind G K) (hi:SIt G c n iter K wi)
    (hk:∀ C,CxOk G (cxK c scope C own fr) -> IOk G (cxK c scope C own fr) n target K aw /\ CTest G (cxK c scope C own fr) n ifs t /\ SE G (cxK c scope C own fr) n elt we) (KN:KNames c scope own fr)
    (hy:c.names[i]? = some y:=by rfl) (hky:c.env.kindOf y = some .local:=by rfl) (hsw:swapsWith (.ListComp elt [⟨target,iter,ifs,0⟩] scope pos) (some (.Name y py)) spos.line c.env = pure true:=by rfl)
    (hfs:∀ x,foldedSetIterable iter c.env x = pure x:=by intro _;rfl):SS G c n (.Assign [.Name y py] (.ListComp elt [⟨target,iter,ifs,0⟩] scope pos) spos) (sAsg i (wComp own fr aw wi t we)):=fun A o s H ls Qn Qr X hA hs h=>by
  rw [exec_Assign_Name_used _ _ _ _ hsw]
  refine wpAny_bind (wpAny_standAt (wpAny_bind ?_))
  show wpAny _ A (do let _ <- comprehension (.ListComp elt [⟨target,iter,ifs,0⟩] scope pos) scope c.env _ (newList []) false (eval iter c.env) (some (assign (.Name y py) c.env))) _ _ s
  refine wpAny_bind (wpAny_mono (wpAny_comprehension_free (use:=some (assign (.Name y py) c.env)) (Q:=fun zz s'=>RF G c o Qn Qr .next s') rfl hfs (closure_of (free_cells KN hs)) KN.kind (fun x hx he=>by rw [<- he];exact KN.loc x hx)
    (wpAny_mono (hi A o s H ls _ X hA hs h) (fun x s1 h1=>wpAny_mono h1 (fun it s2 h2=>?_) fun zz zz e=>⟨ls,e⟩) fun zz zz e=>⟨ls,e⟩)) (fun zz s' hq=>wpAny_pure (wpAny_pure hq)) fun zz zz e=>e)
  refine xA5_5 h2 ?_;(try clear h2);intro H2 l Src guard xs hK hs2 hn hsrc hsz hq
  refine comp_block (RR:=fun acc C r s'=>compPost (model G.prog G.w) A (PXs G c o X) (some (assign (.Name y py) c.env)) (fun zz s'=>RF G c o Qn Qr .next s') acc C r s') CO KN IK.self hk hA hs2 hK hn hsrc (Nat.le_trans hsz (by decide)) hq (IK.live _ _ _ _ hK _ _ hsrc) (IK.notab _ _ _ _ hK _ _ hsrc) (IK.keep _ _ _ _ hK) fun D C s' H' ys hs' hD hy' nC hm=>?_
  refine xA4_3 hm ?_;(try clear hm);intro m oC es ep c1 c2 c3 c4
  refine wpAny_assign_Name (wpAny_mono (storeLocal_ok CO hs'.rebase hy hky) (fun zz s'' h''=>?_) fun zz zz e=>e)
  refine xA0_1 (nC.kept (hs'.trans h'') (kept_st (o:=o) h'') (fun h=>nomatch h) c1 (fun vs e=>by rw [c2] at e;cases e)) ?_;intro nC' hC'
  exact (xI1_1 m (xI3_3 oC es ep hC' c2 c3 c4) (fun h' hsb=>(xI2_1 _ _ (((hs'.trans h'').hiddenN (s':={ s'' with heap:=h' }) CO nC' (fun b y hb e=>(hsb.2 b hb).trans e) rfl rfl).1) (hy' D hD))))
end
open Builtin Builtin.ObjectAttr
noncomputable abbrev bmV:List Value:=[.type "ValueError",.type "Exception",.type "BaseException",.type "object"]
structure ExcK (K:Frag) (C Pr fI:Addr):Prop where
  obj:∃ nm q N bs sn sub ab col dd k0 k1 k2 k3 k5,K.lookup C = some (excClassObj nm q C N bs (.ref Pr :: bmV) true sn sub ab col dd k0 k1 k2 k3 k5 "ValueError.__new__")
  init:findIn K (.ref C) "__init__" = some (some (.ref fI))
  fn:typeIn K (.ref fI) = some (.type "function")
  setattr:findIn K (.ref C) "__setattr__" = some (some (.builtin "object.__setattr__"))
  reason:findIn K (.ref C) "reason" = some none
  keep:keepIn K (.ref C) = true
section
variable {prog:Program} {w:World} {A:Around} {E:Value -> Shared -> Prop} {h:Heap} {g:Array GenState} {d:Drawn} {t:Nat} {os:OsState}
variable {nm q:Str} {C N Pr fI:Addr} {bs:List Value} {hdct:Bool} {sn:List Str} {sub:List Value} {ab:Bool} {col:Option Bool} {dd:Option Addr} {k0 k1 k2 k3 k5:Option Value} {K:Frag}
theorem con_B (C Pr:Addr):(Value.ref C :: .ref Pr :: bmV).contains (.type "ValueError") = true:=by simp [bmV]
theorem con_X (C Pr:Addr):(Value.ref C :: .ref Pr :: bmV).contains (.type "BaseException") = true:=by simp [bmV]
theorem con_A (C Pr:Addr):(Value.ref C :: .ref Pr :: bmV).contains (.type "AttributeError") = false:=by simp [bmV]
theorem con_N (C Pr:Addr):(Value.ref C :: .ref Pr :: bmV).contains (.type "NameError") = false:=by simp [bmV]
theorem con_C (C Pr:Addr):(Value.ref C :: .ref Pr :: bmV).contains (.ref C) = true:=by simp [bmV]
theorem exc_check_new {M:Model} {rest:List Value} {Q:Unit -> Shared -> Prop} (hC:h.get? C = some (excClassObj nm q C N bs (.ref Pr :: bmV) hdct sn sub ab col dd k0 k1 k2 k3 k5 "ValueError.__new__"))
    (hq:Q () ⟨h,g,d,t,os⟩):wpAny M A (checkBuiltinCall "ValueError.__new__" ⟨.ref C :: rest,[]⟩) Q E ⟨h,g,d,t,os⟩:=by
  have F:=PySem.F.excBase_ValueError
  have hcont:=con_B C Pr
  have hstar:=F.noStar
  simp only [checkBuiltinCall,F.newKind,F.newSplit,F.newRow]
  repeat (first | refine wpAny_loadPart_at hC ?_ | (refine wpAny_isSubtype_exc hC ?_;rw [hcont]) | refine wpAny_staticBase_exc hC ?_ | refine wpAny_madeBy_exc hC ?_ | simp only [bne_self_eq_false,Bool.false_eq_true,if_false] | wp_step)
  exact hq
theorem exc_new {R:Result -> Shared -> Prop} {rest:List Value} (hC:h.get? C = some (excClassObj nm q C N bs (.ref Pr :: bmV) hdct sn sub ab col dd k0 k1 k2 k3 k5 "ValueError.__new__"))
    (hq:R (.ok (.ret (.ref (h.objs.size + 1)))) ⟨(h.push { cls:=.type "tuple",data:=.seq rest.toArray }).push
      { cls:=.ref C,data:=.fields #[.ref h.objs.size,.none,.none,.none,.bool false,.none] },g,d,t,os⟩) (hrest:rest.length <= sizeLine) :
    codeAny (model prog w) A (.builtin "ValueError.__new__" ⟨.ref C :: rest,[]⟩) R ⟨h,g,d,t,os⟩:=by
  have F:=PySem.F.excBase_ValueError
  have hends:=F.ends
  have hcB:=con_B C Pr
  have hcA:=con_A C Pr
  have hcN:=con_N C Pr
  refine codeAny_builtinAt F.entry ?_
  unfold Builtin.«BaseException.__new__»
  refine PySem.wpAt_bind ?_
  show PySem.wpAt _ _ _ (stack >>= _) _ _ _
  refine PySem.wpAt_bind (PySem.wpAt_stack fun p below=>PySem.wpAt_of_wpAny ?_)
  wp_walk
  refine PySem.wpAt_of_wpAny ?_
  rw [F.owner]
  repeat (first | with_reducible refine wpAny_madeHere_exc F.canon hC ?_ | with_reducible refine wpAny_loadPart_at hC ?_ | (with_reducible refine wpAny_isSubtype_exc hC ?_;first | rw [hcB] | rw [hcA] | rw [hcN]) | wp_step)
  show R _ _
  rw [Heap.size_push]
  exact hq
theorem exc_made (X:K.In h) (EK:ExcK K C Pr fI) {rest:List Value} {Q:Fin -> Shared -> Prop}
    (hq:∀ h' e,Heap.MadeExcOf h h' e (.ref C) rest -> wpAny (model prog w) A (call (.ref fI) (.ref e :: rest)) (fun r s'=>r = .none /\ Q (.done (.ret (.ref e))) s') E ⟨h',g,d,t,os⟩) (hrest:rest.length <= sizeLine) :
    wpAny (model prog w) A (Builtin.«type.__call__» ⟨.ref C :: rest,[]⟩) Q E ⟨h,g,d,t,os⟩:=by
  refine xA14_0 EK.obj ?_;intro nm q N bs sn sub ab col dd k0 k1 k2 k3 k5 hK
  have hC:=X _ _ hK
  repeat (first | with_reducible refine wpAny_loadPart_at hC ?_ | with_reducible refine wpAny_madeBy_exc hC ?_ | wp_step)
  refine codeAny_call_builtin_code (Code.quiet_builtin _ PySem.F.excBase_ValueError.quiet) (exc_check_new hC ?_)
  refine exc_new hC ?_ hrest
  show wpAny _ _ _ _ _ _
  have hk:∀ b o,h.get? b = some o -> ((h.push { cls:=.type "tuple",data:=.seq rest.toArray }).push { cls:=.ref C,data:=.fields #[.ref h.objs.size,.none,.none,.none,.bool false,.none] }).get? b = some o:=fun b o e=>Heap.get?_push_of_some _ (Heap.get?_push_of_some _ e)
  have hC₁:=hk _ _ hC
  have X₁:=X.keeps hk
  have hget:((h.push { cls:=.type "tuple",data:=.seq rest.toArray }).push
      { cls:=.ref C,data:=.fields #[.ref h.objs.size,.none,.none,.none,.bool false,.none] }).get? (h.objs.size + 1) = some
      { cls:=.ref C,data:=.fields #[.ref h.objs.size,.none,.none,.none,.bool false,.none] }:=by heap_get
  have hcC:=con_C C Pr
  unfold isInstance
  repeat (first | with_reducible refine wpAny_loadPart_at hget ?_ | (with_reducible refine wpAny_isSubtype_exc hC₁ ?_;rw [hcC]) | wp_step)
  show wpAny _ _ (typeLookup (.ref C) _) _ _ _
  refine (looks_findIn X₁ EK.init).here ?_
  refine wpAny_holding (wpAny_bind ?_)
  refine (bind_fn X₁ _ EK.fn).here ?_
  refine wpAny_bind (wpAny_mono (hq _ (h.objs.size + 1) ⟨hk,Heap.get?_none_of_le (Nat.le_succ _),h.objs.size,hget,Heap.get?_none_of_le (Nat.le_refl _),?_⟩) (fun r s' hr=>?_) fun zz zz x=>x)
  · exact Heap.get?_push_of_some _ (Heap.get?_push_at rfl rfl)
  · refine xA0_1 hr ?_;(try clear hr);intro hT1;subst hT1;intro hQ
    wp_walk
    exact hQ
theorem exc_call (X:K.In h) (EK:ExcK K C Pr fI) {rest:List Value} {Q:Value -> Shared -> Prop}
    (hq:∀ h' e,Heap.MadeExcOf h h' e (.ref C) rest ->
      wpAny (model prog w) (A.under (.builtin "type.__call__" ⟨.ref C :: rest,[]⟩)) (call (.ref fI) (.ref e :: rest)) (fun r s'=>r = .none /\ Q (.ref e) s') E ⟨h',g,d,t,os⟩) (hrest:rest.length <= sizeLine) :
    wpAny (model prog w) A (call (.ref C) rest) Q E ⟨h,g,d,t,os⟩:=by
  refine xA14_0 EK.obj ?_;intro nm q N bs sn sub ab col dd k0 k1 k2 k3 k5 hK
  have hC:=X _ _ hK
  have f1:=tc_lookup
  have f2:=tc_bind (.ref C)
  have hT:(⟨h,g,d,t,os⟩:Shared).TypeIs (.ref C) "type" := (xI1_1 _ hC rfl)
  refine wpAny_call (codeAny_of_tree ?_)
  show wpAny _ _ (callAny (.ref C) _) _ _ _
  repeat (any_goals (first | assumption | with_reducible refine wpAny_loadPart_at hC ?_ | wp_step))
  refine ⟨rfl,?_⟩
  refine codeAny_call_builtin_at (Code.quiet_builtin _ (by decide +kernel)) entry_typeCall (wpAny_check_type_call_sub hC (exc_made X EK (fun h' e hm=>?_) hrest))
  exact hq h' e hm
theorem exc_init0 (hC:h.get? C = some (excClassObj nm q C N bs (.ref Pr :: bmV) hdct sn sub ab col dd k0 k1 k2 k3 k5 "ValueError.__new__")) {e:Addr} {de:Option Addr} {t0:Addr} {v:Value} {Q:Value -> Shared -> Prop}
    (he:h.get? e = some { cls:=.ref C,dict:=de,data:=.fields #[.ref t0,.none,.none,.none,.bool false,.none] })
    (hq:∀ h',(∀ b o,b ≠ e -> h.get? b = some o -> h'.get? b = some o) -> (∃ t1,h'.get? e = some { cls:=.ref C,dict:=de,data:=.fields #[.ref t1,.none,.none,.none,.bool false,.none] }) -> Q .none ⟨h',g,d,t,os⟩) :
    wpAny (model prog w) A (call (.builtin "ValueError.__init__") [.ref e,v]) Q E ⟨h,g,d,t,os⟩:=by
  have F:=PySem.F.excBase_ValueError
  have chk:∀ (A:Around) (E:Value -> Shared -> Prop) (Q:Unit -> Shared -> Prop),Q () ⟨h,g,d,t,os⟩ -> wpAny (model prog w) A (checkBuiltinCall "ValueError.__init__" ⟨.ref e :: [v],[]⟩) Q E ⟨h,g,d,t,os⟩:=fun A E Q hq=>by
    have hcB:=con_B C Pr
    have hshort:=F.noStar
    simp only [checkBuiltinCall,F.initKind,F.initSplit,F.initRow]
    repeat (first | with_reducible refine wpAny_loadPart_at he ?_ | with_reducible refine wpAny_loadPart_at hC ?_ | (with_reducible refine wpAny_isSubtype_exc hC ?_;rw [hcB]) | wp_step)
    exact hq
  refine wpAny_call (codeAny_call_builtin F.init.plain F.initEntry (chk _ _ _ ?_))
  wp_walk
  show Q .none _
  refine hq _ (fun b o hb e=>?_) ⟨h.objs.size,?_⟩
  · rw [Heap.get?_update_other _ _ (Ne.symm hb)];exact Heap.get?_push_of_some _ e
  · exact Heap.get?_update_self _ (Heap.get?_push_of_some _ he) rfl
end
section
variable {prog:Program} {w:World} {A:Around} {E:Value -> Shared -> Prop} {s:Shared} {C N Pr fI:Addr} {K:Frag}
theorem exc_store (X:K.In s.heap) (EK:ExcK K C Pr fI) {e t0:Addr} {v:Value} {Q:Unit -> Shared -> Prop}
    (he:s.heap.get? e = some { cls:=.ref C,data:=.fields #[.ref t0,.none,.none,.none,.bool false,.none] })
    (hq:∀ h' tk,(∀ b o,b ≠ e -> s.heap.get? b = some o -> h'.get? b = some o) -> (∃ dd,h'.get? e = some { cls:=.ref C,dict:=dd,data:=.fields #[.ref t0,.none,.none,.none,.bool false,.none] }) -> Q () { s with heap:=h',toks:=tk }) :
    wpAny (model prog w) A (setAttr (.ref e) "reason" v) Q E s:=by
  refine xA14_0 EK.obj ?_;intro nm q N bs sn sub ab col dd k0 k1 k2 k3 k5 hK
  have I:InstAt s.heap e { cls:=.ref C,data:=.fields #[.ref t0,.none,.none,.none,.bool false,.none] } C none:=⟨he,rfl,rfl,trivial⟩
  refine set_plain X I EK.setattr ?_
  have SF:=PySem.F.store_object
  have SV:=PySem.F.store_ValueError
  have hc:clsIn K C = some { name:=nm,bases:=bs,mro:=.ref C :: .ref Pr :: bmV,ns:=N,qualname:=q,hasDict:=true,slotNames:=sn,subclasses:=sub,abstract:=ab,collection:=col,hasDel:=false }:=by
    unfold clsIn;rw [hK]
  have sub:Looks (model prog w) s.heap (isInstance (.ref e) (.type "object")) true:=I.type.andThen (looks_mroIn X (by unfold mroIn;rw [hc,Option.bind_some,if_neg (by simp)];simp [bmV]))
  have hm:Looks (model prog w) s.heap (mroOf (.ref C)) (.ref C :: .ref Pr :: bmV):=(looks_clsIn X hc).andThen .now
  refine codeAny_call_builtin SF.slot.plain SF.entry (@check_slot (model prog w) _ _ { s with toks:=s.toks + 1 } "object.__setattr__" "object" "__setattr__" (.ref e) [.str "reason" s.toks,v] [] _ SF.kind SF.split sub (SF.args (.ref e) (.str "reason" s.toks) v) ?_)
  rw [osa_eq,refuse_eq]
  refine wpAny_bind (wpAny_bind (I.type.here (s:={ s with toks:=s.toks + 1 }) (wpAny_bind (hm.here (s:={ s with toks:=s.toks + 1 }) ?_))))
  rw [refuseLoop_ref,refuseLoop_ref,SV.passes]
  refine wpAny_pure (wpAny_bind (I.type.here (s:={ s with toks:=s.toks + 1 }) (wpAny_bind ((looks_findIn X EK.reason).here (s:={ s with toks:=s.toks + 1 }) ?_))))
  refine wpAny_bind (wpAny_pure ?_)
  refine wpAny_bind (wpAny_pure (wpAny_bind (wpAny_bind (wpAny_loadPart he (wpAny_bind ((looks_clsIn X hc).here (s:={ s with toks:=s.toks + 1 }) ?_))))))
  rw [if_neg (by simp)]
  dsimp only
  rw [if_neg (by simp [typeHasDict])]
  have hxs:e ≠ s.heap.objs.size:=Nat.ne_of_lt (Heap.lt_size he)
  have hx₁:(s.heap.push { cls:=.type "dict",data:=.dict #[] }).get? e = some { cls:=.ref C,data:=.fields #[.ref t0,.none,.none,.none,.bool false,.none] }:=Heap.get?_push_of_some _ he
  refine wpAny_bind (wpAny_alloc ?_)
  refine wpAny_bind (wpAny_update hx₁ ?_)
  refine wpAny_pure ?_
  have hgd:((s.heap.push { cls:=.type "dict",data:=.dict #[] }).update e fun o=>{ cls:=o.cls,dict:=some s.heap.objs.size,data:=o.data,slots:=o.slots }).get? s.heap.objs.size
      = some { cls:=.type "dict",data:=.dict #[] } :=
    (Heap.get?_update_ne _ _ _ _ hxs.symm).trans (Heap.get?_push_at rfl rfl)
  have hnd:((s.heap.push { cls:=.type "dict",data:=.dict #[] }).update e fun o=>{ cls:=o.cls,dict:=some s.heap.objs.size,data:=o.data,slots:=o.slots }).Ns s.heap.objs.size (fun zz=>none) :=
    (xI3_3 _ (#[]) _ hgd rfl (fun e he=>absurd he (by simp)) (fun zz=>rfl))
  show wpAny _ _ (storeInDict s.heap.objs.size (.str "reason" s.toks) "reason" v) _ _ _
  unfold storeInDict newKeyGuard
  refine wpAny_bind (wpAny_pure (wpAny_bind (wpAny_nsSet1 (Heap.Ns1.of_empty hnd) fun h' hn' hs=>?_)))
  refine xA3_2 (hn'.count (Within.cons "reason" v Within.nil)) ?_;intro oD esD epD hoD hdD hcD
  refine wpAny_bind (wpAny_lookBehind hoD (by rw [hdD];exact pastItsLine_dict (Nat.le_trans hcD (by rw [List.length_cons,List.length_nil,sizeLine_eq];lia))) ?_)
  wp_walk
  show Q () _
  refine hq h' _ (fun b o hb e=>?_) ⟨some s.heap.objs.size,(hs.2 e hxs).trans (Heap.get?_update_self _ hx₁ rfl)⟩
  exact (hs.2 b (Nat.ne_of_lt (Heap.lt_size e))).trans ((Heap.get?_update_ne _ _ _ _ hb).trans (Heap.get?_push_of_some _ e))
end
theorem upd_same {H:MH} {a:Addr} {m:MO} (h:H a = some m):upd H a m = H:=by
  funext b
  by_cases q:b = a
  · subst q;rw [upd_self,h]
  · exact upd_ne _ _ q
theorem upd_upd (H:MH) (a:Addr) (m m':MO):upd (upd H a m) a m' = upd H a m':=by
  funext b
  by_cases q:b = a
  · subst q;rw [upd_self,upd_self]
  · rw [upd_ne _ _ q,upd_ne _ _ q,upd_ne _ _ q]
section
variable {G:Gl} {c:Cx} {n:Nat}
theorem St.forget {o:Org} {H:MH} {ls:List V} {s:Shared} {e:Addr} {m:MO} (x:St G c o (upd H e m) ls s) (he:H e = none):St G c o H ls s:=by
  have none_of:∀ b,upd H e m b = none -> H b = none:=fun b h=>by
    by_cases q:b = e
    · subst q;exact he
    · rwa [upd_ne _ _ q] at h
  refine { x with own:=fun a mm h=>x.own a mm ?_,free:=fun z ca h=>?_,tr:={ x.tr with claim:=fun b z h1 h2=>none_of b (x.tr.claim b z h1 h2) } }
  · rw [upd_ne _ _ (fun q=>by rw [q,he] at h;cases h)];exact h
  · refine xA0_1 (x.free z ca h) ?_;intro h1 h2
    exact ⟨none_of ca h1,h2⟩
theorem St.newSince {o:Org} {H H':MH} {ls ls':List V} {s s':Shared} {D:Addr} (x:St G c o H ls s) (y:St G c o H' ls' s') (e:s.heap.get? D = none) (hH:H' D = none) (hnc:∀ q,¬ s'.heap.CodeRec (.ref D) q):New G c o H' s'.heap D:=by
  refine xA0_5 (x.fresh e) ?_;intro f1 f2 f3 f4 f5 f6
  refine ⟨f2,hH,f3,f4,f5,fun y q=>f6 D y q rfl,fun z q=>?_,fun ps hp p hpm q=>?_⟩
  · obtain ⟨_,oc,h1⟩:=x.free z D q;rw [e] at h1;cases h1
  · refine xA1_2 y.tab ?_;intro ps' h1 h2 h3
    rw [hp] at h1;cases h1
    exact hnc _ (h3 p hpm _ q)
theorem exc_noCode {h:Heap} {e:Addr} {C:Value} {dd:Option Addr} {a:Value} {sl:Array (Option Value)} (he:h.get? e = some { cls:=C,dict:=dd,data:=.fields #[a,.none,.none,.none,.bool false,.none],slots:=sl }) (q:Str):¬ h.CodeRec (.ref e) q:=fun hF1=>xA4_3 hF1 fun ca oc vs t e1 e2 e3 e4=>by
  cases e1
  rw [he] at e2;cases e2;cases e3;cases e4
theorem vinit:findCls [] (.type "ValueError") (.type "type") (Str.ofString "__init__") = some (.val (.builtin "ValueError.__init__")):=by kernel_rfl
theorem vtype:typeOf (.type "ValueError") = pure (.type "type"):=by kernel_rfl
theorem vstub:Manifest.isStub "ValueError" = false:=by kernel_rfl
theorem vhand:handedIn (.builtin "ValueError.__init__") = true:=by kernel_rfl
theorem empty_in:Frag.In [] {}:=fun zz zz h=>nomatch h
noncomputable def excAt (Cs:List Addr) (v:V) (H:MH) (Q:MH -> Prop):Prop:=onRef v fun e=>onExc (H e) fun C zz=>C ∈ Cs /\ Q H
noncomputable def wExcInit (Cs:List Addr) (vs:List V):WV:=fun Q zz H=>on2 vs fun v zz=>excAt Cs v H (fun H'=>Q .none H')
noncomputable def ExcAll (K:Frag) (Pr fI:Addr) (Cs:List Addr):Prop:=∀ C ∈ Cs,ExcK K C Pr fI
theorem excinit_ok (GO:GlOk G) (CO:CxOk G c) {Pr fI:Addr} {Cs:List Addr} (EA:ExcAll G.K Pr fI Cs):CallOk G c n (.builtin "ValueError.__init__") (wExcInit Cs):=fun A o s H ls Q X args hA hs h=>by
  refine on2_k h fun v1 v2 hv h2=>onRef_k h2 fun e ev h3=>onExc_k h3 fun C b hH h4=>?_
  clear h h2 h3
  subst hv ev
  have h:=h4
  refine xA14_0 ((EA C h.1).obj) ?_;intro nm q N bs sn sub ab col dd k0 k1 k2 k3 k5 hK
  refine xA1_1 (hs.live hH) ?_;intro ob g1 hT1;refine xA2_1 hT1 ?_;(try clear hT1);intro t dd' g2 hT2;subst hT2
  obtain ⟨hp,gens,dr,tk,os⟩:=s
  refine exc_init0 (GO.kin.keeps hs.base _ _ hK) g1 fun h' k1 k2=>?_
  refine xA1_0 k2 ?_;(try clear k2);intro t1 k2
  have hsb:St G c o (upd H e (.exc C b)) ls ⟨h',gens,dr,tk,os⟩:=hs.upd1 (s':=⟨h',gens,dr,tk,os⟩) CO (.inl (by rw [hH];exact fun q=>nomatch q)) (fun b y e' hb zz=>k1 b y hb e') (fun m hm=>hm.at' fun o e'=>k1 _ _ (fun q=>(hs.own e _ hH).2.2.1 (q ▸ CO.loc)) e') k2 (xI2_1 t1 dd' g2 rfl) rfl rfl
  rw [upd_same hH] at hsb
  exact (xI1_1 H hsb h.2)
theorem r_vinit (GO:GlOk G) {w:List V -> WV} {l:WL} {np apos pos:Pos} {es:List Expr} {pl:Env -> Sem Bool} (hx:SE G c n (.Name "ValueError" np) (wVal (.type "ValueError"))) (hw:CallOk G c n (.builtin "ValueError.__init__") w) (hl:SEs G c n es l) (he:∀ env,eval (.Call (.Attribute (.Name "ValueError" np) "__init__" apos) es [] pos) env = (do
      let ov <- eval (.Name "ValueError" np) env
      standAt apos.atName
      let (f,first) <- holding [ov] (getMethod ov "__init__" (pl env))
      callWith pos f first (backTo pos (starEach es env)) (backToKw pos (keywordEach [] env))):=by intro _;rfl) (hp:PlainArgs es:=by intro _ _;exact ⟨rfl,_,_,rfl⟩) :
    SE G c n (.Call (.Attribute (.Name "ValueError" np) "__init__" apos) es [] pos) (wCall w l):=fun A o s H ls Q X hA hs h=>by
  refine xA1_1 hs.frame.loc ?_;intro m hn _
  refine methodCall_KW (hx.val hA hs (fun ov s1 hs1 h1=>?_) fun zz zz e=>e) (he _)
  rw [er_type h1]
  refine xA1_1 hs1.frame.loc ?_;intro m1 hn1 _
  have F1:Fr {} c.env.locals s1.heap m1:=⟨hn1,fun b y e=>(by rw [empty_get] at e;cases e),Nat.zero_le _⟩
  refine method_type (T := "ValueError") (name:=Str.ofString "__init__") (v:=.builtin "ValueError.__init__") F1 empty_in vtype vstub vinit vhand ?_
  exact callWith_ok (first:=[]) GO (.blt _) hw hl hp hA (hs1.keeps (s':={ s1 with toks:=s1.toks + 1 }) (fun zz zz e=>e) rfl rfl) h
noncomputable def sExcReason (Cs:List Addr) (a e:WE):WS:=fun ls Qn zz X H=>e ls (fun u H1=>a ls (fun v H2=>onRef v fun x=>onExc (H2 x) fun C b=>C ∈ Cs /\ b = true /\ Qn ls (upd H2 x (.exc C false))) X H1) X H
theorem s_excReason (GO:GlOk G) (CO:CxOk G c) {Pr fI:Addr} {Cs:List Addr} (EA:ExcAll G.K Pr fI Cs) {a w:WE} {b e:Expr} {px pos:Pos} (ha:SE G c n b a) (he:SE G c n e w)
    (hsw:∀ env,swapsWith e (some (.Attribute b "reason" px)) pos.line env = pure false:=by intro _;rfl):SS G c n (.Assign [.Attribute b "reason" px] e pos) (sExcReason Cs a w):=fun A o s H ls Qn Qr X hA hs h =>
  plainObj_wpAny_Assign_Attribute (he.go hA hs h (fun v s1 H1 hs1 h1=>ha.go hA hs1 h1 (fun ov s2 H2 hs2 h2=>by
    refine onRef_k h2 fun x hx h3=>onExc_k h3 fun C b hH h4=>?_
    clear h2 h3
    refine xA0_2 h4 ?_;(try clear h4);intro hC hb h2
    subst hx hb
    refine xA1_1 (hs2.live hH) ?_;intro ob g1 hT1;refine xA2_1 hT1 ?_;(try clear hT1);intro t dd g2 hT2;subst hT2
    have:=g2 rfl
    subst this
    refine exc_store (GO.kin.keeps hs2.base) (EA C hC) g1 fun h' tk k1 k2=>?_
    refine xA1_0 k2 ?_;(try clear k2);intro dd k2
    exact (xI2_1 ls _ (hs2.upd1 (m:=.exc C false) (s':={ s2 with heap:=h',toks:=tk }) CO (.inl (by rw [hH];exact fun q=>nomatch q)) (fun b y e' hb zz=>k1 b y hb e') (fun m hm=>hm.at' fun o e'=>k1 _ _ (fun q=>(hs2.own x _ hH).2.2.1 (q ▸ CO.loc)) e') k2 (xI2_1 t dd (fun q=>nomatch q) rfl) rfl rfl) h2)) fun zz zz e=>⟨ls,e⟩) fun zz zz e=>⟨ls,e⟩) (hsw _)
noncomputable def initW (Cs:List Addr) (vals:List V):WV:=fun Q zz H=>on2 vals fun v zz=>onRef v fun e=>onExc (H e) fun C b=>C ∈ Cs /\ b = true /\ Q .none (upd H e (.exc C false))
theorem exc_made_ok (GO:GlOk G) (CO:CxOk G c) {Pr fI C:Addr} {Cs:List Addr} {m:Nat} (EA:ExcAll G.K Pr fI Cs) (hC:C ∈ Cs) (hI:FnOk G m (.ref fI) (initW Cs)) (hm:m + 1 <= n) {A:Around} {o:Org} {s:Shared} {H:MH} {ls:List V} {v:Value} {E:Value -> Shared -> Prop} (hA:AOk n c A) (hs:St G c o H ls s) :
    wpAny (model G.prog G.w) A (call (.ref C) [v]) (fun r s'=>∃ e t dd,r = .ref e /\ s'.heap.get? e = some { cls:=.ref C,dict:=dd,data:=.fields #[.ref t,.none,.none,.none,.bool false,.none] } /\ St G c o H ls s' /\ New G c o H s'.heap e) E s:=by
  obtain ⟨hp,gens,dr,tk,os⟩:=s
  refine exc_call (GO.kin.keeps hs.base) (EA C hC) (fun h' e hM=>?_) (show 1 <= sizeLine by decide)
  refine xA1_2 hM.there ?_;intro t g1 g2 g3
  have he:=hM.new
  have hHe:=(hs.fresh he).1
  have s1:St G c o (upd H e (.exc C true)) ls ⟨h',gens,dr,tk,os⟩:=hs.alloc (s':=⟨h',gens,dr,tk,os⟩) hM.keeps he g1 (xI2_1 t none (fun zz=>rfl) rfl) rfl rfl
  refine wpAny_mono (hI.call (Nat.le_refl m) CO _ o _ _ ls (fun r H'=>r = .none /\ H' = upd H e (.exc C false)) (fun zz zz=>False) [.ref e,v] ((hA.le hm).made C [v]) s1 ?_) (fun r s' hF1=>xA1_2 hF1 fun H' hs' hr hH'=>?_) fun e' s' hF1=>xA3_3 hF1 fun zz zz zz zz zz hx zz=>hx.elim
  · show onExc (upd H e (.exc C true) e) _
    rw [upd_self,onExc_mk,upd_upd]
    exact (xI0_3 hC rfl rfl rfl)
  · subst hH'
    refine xA1_1 (hs'.live (upd_self _ _ _)) ?_;intro ob k1 hT1;refine xA2_1 hT1 ?_;(try clear hT1);intro t' dd _ hT2;subst hT2
    have f:=hs'.forget hHe
    exact ⟨er_none hr,(xI3_3 e t' dd rfl k1 f (hs.newSince f he hHe (exc_noCode k1)))⟩
theorem raise_made {K:Frag} {Pr fI C:Addr} {M:Model} {A:Around} {E:Value -> Shared -> Prop} {env:Env} {s:Shared} {x:Sem Value} {Q:Flow -> Shared -> Prop} (EK:ExcK K C Pr fI) (hh:A.handled = none)
    (h:wpAny M A x (fun v s₁=>∃ e t dd,v = .ref e /\ K.In s₁.heap /\ s₁.heap.get? e = some { cls:=.ref C,dict:=dd,data:=.fields #[.ref t,.none,.none,.none,.bool false,.none] } /\ E (.ref e) s₁) E s) :
    wpAny M A (raiseStmt env (some x) none) Q E s:=by
  refine xA14_0 EK.obj ?_;intro nm q N bs sn sub ab col dd k0 k1 k2 k3 k5 hK
  have hcB:=con_X C Pr
  unfold raiseStmt
  refine wpAny_bind (wpAny_mono h (fun v s₁ h₁=>?_) fun zz zz x=>x)
  refine xA3_3 h₁ ?_;(try clear h₁);intro e t dd hT1;subst hT1;intro X he hE
  have hC:=X _ _ hK
  obtain ⟨hp,g,d,tk,os⟩:=s₁
  repeat (first | with_reducible refine wpAny_loadPart_at he ?_ | with_reducible refine wpAny_loadPart_at hC ?_ | (with_reducible refine wpAny_isSubtype_exc hC ?_;rw [hcB]) | wp_step)
  exact wpAny_raiseNew_none hh hE
noncomputable def sRaise (C:Addr) (l:WL):WS:=fun ls zz zz X H=>l ls (fun vs H1=>vs.length = 1 /\ X C H1) X H
theorem s_raise (GO:GlOk G) (CO:CxOk G c) {Pr fI C:Addr} {Cs:List Addr} {m:Nat} (EA:ExcAll G.K Pr fI Cs) (hC:C ∈ Cs) (hI:FnOk G m (.ref fI) (initW Cs)) (hm:m + 1 <= n) {x:Str} {np cpos pos:Pos} {es:List Expr} {l:WL}
    (hx:SE G c n (.Name x np) (wVal (.ref C))) (hl:SEs G c n es l) (hp:PlainArgs es:=by intro _ _;exact ⟨rfl,_,_,rfl⟩):SS G c n (.Raise (some (.Call (.Name x np) es [] cpos)) none pos) (sRaise C l):=fun A o s H ls Qn Qr X hA hs h=>by
  rw [arm_exec_Raise]
  have ev:∀ env,(evalOpt (some (.Call (.Name x np) es [] cpos)) env).map (fun x=>do let v <- x;standAt pos;pure v) = some (do let v <- eval (.Call (.Name x np) es [] cpos) env;standAt pos;pure v):=fun zz=>rfl
  have en:∀ env,(evalOpt none env).map (fun x:Sem Value=>do let v <- x;standAt pos;pure v) = none:=fun zz=>rfl
  rw [ev,en]
  refine wpAny_bind (wpAny_standAt (raise_made (EA C hC) hA.2.1 (wpAny_bind (wpAny_mono (wpAny_Call_NameR (hx.val hA hs (fun v s1 hs1 h1=>?_) fun zz zz e=>⟨ls,e⟩)) (fun v s3 h3=>wpAny_bind (wpAny_standAt (wpAny_pure h3))) fun zz zz e=>e))))
  rw [er_ref h1]
  refine xA0_1 (hp cpos c.env) ?_;intro hp1 hT1;refine xA2_0 hT1 ?_;(try clear hT1);intro y r e
  refine call_by GO (.ref C (EA C hC).keep) hp1 ?_
  have:=hl A o s1 H ls _ X cpos hA hs1 h
  rw [e] at this ⊢
  refine PySem.Calls.evalArgs_plain (wpAny_mono this (fun vs s2 hF1=>xA1_2 hF1 fun H2 hs2 hlen hX=>(xI0_2 rfl hs2.base ?_)) fun zz zz e=>⟨ls,e⟩)
  refine xA1_0 (List.length_eq_one_iff.mp ((List.length_map er).symm.trans hlen)) ?_;intro v hT1;subst hT1
  refine wpAny_mono (exc_made_ok GO CO EA hC hI hm hA hs2) (fun r s' hF1=>xA3_3 hF1 fun e t dd hr he hs' hn=>?_) fun zz zz e=>e
  exact (xI3_3 e t dd hr (GO.kin.keeps hs'.base) he (xI4_3 ls e C H2 rfl hs' hX (xI3_5 _ _ _ he rfl rfl rfl hn (.inl rfl))))
end
section
variable {G:Gl} {c:Cx} {n:Nat}
noncomputable def SX (G:Gl) (c:Cx) (n:Nat) (b:List Stmt) (w:WS):Prop :=
  ∀ A o s H ls Qn Qr X,AOk n c A -> St G c o H ls s -> w ls Qn Qr X H -> wpAny (model G.prog G.w) A (execs b c.env) (RF G c o Qn Qr) (PX G c o ls X) s
theorem x_asg (C:CxOk G c) (i:Nat) {x:Str} {px pos:Pos} {e:Expr} {w:WE} (he:SE G c n e w) (hi:c.names[i]? = some x:=by rfl) (hk:c.env.kindOf x = some .local:=by rfl)
    (hsw:∀ env,swapsWith e (some (.Name x px)) pos.line env = pure false:=by intro _;rfl):SX G c n [.Assign [.Name x px] e pos] (sAsg i w):=fun A o s H ls Qn Qr X hA hs h =>
  wpAny_execs_cons (wpAny_Assign_Name (he.go hA hs h (fun v s1 H1 hs1 h1=>wpAny_mono (storeLocal_ok C hs1 hi hk) (fun zz s' h'=>wpAny_execs_nil (xI2_1 _ H1 h' h1)) fun zz zz e=>e) fun zz zz e=>e) (hsw _))
theorem x_ret {e:Expr} {pos:Pos} {w:WE} (h:SE G c n e w):SX G c n [.Return (some e) pos] (sRet w):=fun A o s H ls Qn Qr X hA hs h' =>
  wpAny_execs_cons (wpAny_Return_some (h.go hA hs h' (fun v s1 H1 hs1 h1=>(xI2_1 ls H1 hs1 h1)) fun zz zz e=>e))
noncomputable def sDrop (e:WE):WS:=fun ls Qn zz X H=>e ls (fun v H'=>v = .none /\ Qn ls H') X H
theorem x_expr {e:Expr} {pos:Pos} {w:WE} (he:SE G c n e w) (hi:interactive c.env = false) (hsw:∀ env,swapsWith e none pos.line env = pure false:=by intro _;rfl):SX G c n [.Expr e pos] (sExpr w):=fun A o s H ls Qn Qr X hA hs h =>
  wpAny_execs_cons (wpAny_Expr (he.go hA hs h (fun v s1 H1 hs1 hqq=>(fun hv h1=>by
    rw [er_none hv];exact wpAny_execs_nil (xI2_1 ls H1 hs1 h1)) hqq.1 hqq.2) fun zz zz e=>e) hi (hsw _))
noncomputable abbrev WR:=List V -> QV -> MH -> Prop
noncomputable def RetOk (G:Gl) (c:Cx) (b:List Stmt) (w:WR):Prop :=
  (∃ st r,b = st :: r) /\ ∀ (A:Around) (o:Org) (s:Shared) (H:MH) (ls:List V) (Q:QV) (E:Value -> Shared -> Prop),St G c o H ls s -> w ls Q H -> wpAny (model G.prog G.w) A (execs b c.env) (RF G c o (fun zz zz=>False) Q) E s
theorem q_bool {b:Bool} {k:Nat} {p pos:Pos}:RetOk G c [.Return (some (.Constant (.bool b) k p)) pos] (fun zz Q H=>Q (.bool b) H) :=
  ⟨(xI2_0 _ _ rfl),fun A o s H ls Q E hs h=>wpAny_execs_cons (wpAny_Return_some (wpAny_Constant_bool (xI2_1 ls H hs h)))⟩
theorem q_none {k:Nat} {p pos:Pos}:RetOk G c [.Return (some (.Constant .none k p)) pos] (fun zz Q H=>Q .none H) :=
  ⟨(xI2_0 _ _ rfl),fun A o s H ls Q E hs h=>wpAny_execs_cons (wpAny_Return_some (wpAny_Constant_none (xI2_1 ls H hs h)))⟩
theorem q_loc (C:CxOk G c) (i:Nat) {x:Str} {p pos:Pos} (hi:c.names[i]? = some x:=by rfl) (hk:c.env.kindOf x = some .local:=by rfl) (hd:(x == ("__debug__" : Str)) = false:=by decide) :
    RetOk G c [.Return (some (.Name x p)) pos] (fun ls Q H=>∃ v,ls[i]? = some v /\ v ≠ .unb /\ Q v H) :=
  ⟨(xI2_0 _ _ rfl),fun A o s H ls Q E hs hF1=>xA1_2 hF1 fun v h1 h2 h3=>by
    refine xA1_1 hs.frame.loc ?_;intro m hn hl
    refine xA1_1 (hl i x v hi hk h1 h2) ?_;intro u hu he
    exact wpAny_execs_cons (wpAny_Return_some (wpAny_Name (wpAny_loadName_local C.kind hk hn hu (xI2_1 ls H hs (he ▸ h3))) hd))⟩
noncomputable def HOk (G:Gl) (c:Cx) (hs:List ExceptHandler) (w:Addr -> WR):Prop :=
  ∀ (A:Around) (o:Org) (s:Shared) (H:MH) (ls:List V) (Q:QV) (E:Value -> Shared -> Prop) (e C:Addr),St G c o H ls s -> FlightAt G c o H e C .none s.heap -> w C ls Q H ->
    wpAny (model G.prog G.w) A (handleBy (.ref e) c.env hs) (RF G c o (fun zz zz=>False) Q) E s
noncomputable def hEnd:Addr -> WR:=fun zz zz zz zz=>False
noncomputable def hCons (Cs:List Addr) (C1:Addr) (w:WR) (wr:Addr -> WR):Addr -> WR:=fun C ls Q H=>C ∈ Cs /\ (C = C1 -> w ls Q H) /\ (C ≠ C1 -> wr C ls Q H)
theorem h_end:HOk G c [] hEnd:=fun zz zz zz zz zz zz zz zz zz zz zz h=>h.elim
theorem excMatch_ok {K:Frag} {Pr fI C C1:Addr} {M:Model} {A:Around} {E:Value -> Shared -> Prop} {s:Shared} {e:Addr} {oe:Obj} {Q:Bool -> Shared -> Prop} (X:K.In s.heap) (EK:ExcK K C Pr fI) (EK1:ExcK K C1 Pr fI) (hne:C1 ≠ Pr)
    (he:s.heap.get? e = some oe) (hcls:oe.cls = .ref C) (hq:Q (decide (C = C1)) s):wpAny M A (excMatches (.ref e) (.ref C1)) Q E s:=by
  refine xA14_0 EK.obj ?_;intro nm q N bs sn sub ab col dd k0 k1 k2 k3 k5 hK
  refine xA14_0 EK1.obj ?_;intro nm' q' N' bs' sn' sub' ab' col' dd' k0' k1' k2' k3' k5' hK'
  have hC:=X _ _ hK
  have hC':=X _ _ hK'
  have hcB:=con_X C1 Pr
  have hcC:(Value.ref C :: .ref Pr :: bmV).contains (.ref C1) = decide (C = C1):=by
    by_cases q:C = C1
    · subst q;simp [con_C]
    · have q2:¬ C1 = C:=fun h=>q h.symm
      simp [bmV,q,q2,hne]
  have f:=tc_notTuple
  obtain ⟨hp,g,d,t,os⟩:=s
  unfold excMatches
  by_cases qq:C = C1
  · rw [decide_eq_true qq] at hq hcC
    repeat (first | (with_reducible refine wpAny_loadPart_at he ?_;rw [hcls]) | with_reducible refine wpAny_loadPart_at hC' ?_ | with_reducible refine wpAny_loadPart_at hC ?_ | (with_reducible refine wpAny_isSubtype_exc hC' ?_;rw [hcB]) | (with_reducible refine wpAny_isSubtype_exc hC ?_;rw [hcC]) | wp_step)
    exact hq
  · rw [decide_eq_false qq] at hq hcC
    repeat (first | (with_reducible refine wpAny_loadPart_at he ?_;rw [hcls]) | with_reducible refine wpAny_loadPart_at hC' ?_ | with_reducible refine wpAny_loadPart_at hC ?_ | (with_reducible refine wpAny_isSubtype_exc hC' ?_;rw [hcB]) | (with_reducible refine wpAny_isSubtype_exc hC ?_;rw [hcC]) | wp_step)
    exact hq
theorem h_cons (GO:GlOk G) (CO:CxOk G c) {Pr fI C1:Addr} {Cs:List Addr} (EA:ExcAll G.K Pr fI Cs) (hC1:C1 ∈ Cs) (hPr:Pr ∉ Cs) {x:Str} {np pos:Pos} {b:List Stmt} {w:WR} {rest:List ExceptHandler} {wr:Addr -> WR} (hm:G.mg x = some (.ref C1)) (hb:RetOk G c b w) (hr:HOk G c rest wr)
    (hk:c.env.kindOf x = some .globalImplicit:=by rfl) (hd:(x == ("__debug__" : Str)) = false:=by decide):HOk G c (.ExceptHandler (some (.Name x np)) none b pos :: rest) (hCons Cs C1 w wr):=fun A o s H ls Q E e C hs hf h=>by
  refine xA6_0 (id hf) ?_;intro oe vs a0 T oT ts hT1;refine xA0_2 hT1 ?_;(try clear hT1);intro h1 h2 hrest
  refine wpAny_handleBy_cons (codeAny_handlers_test (PySem.Calls.Name_function_global CO.kind hk (PySem.Calls.loadGlobal_global (by rw [CO.glob];exact GO.g.keeps hs.base) hm ?_) hd)) (by intro q;cases q)
  refine excMatch_ok (GO.kin.keeps hs.base) (EA C h.1) (EA C1 hC1) (fun q=>hPr (q ▸ hC1)) h1 h2 ?_
  by_cases q:C = C1
  · rw [decide_eq_true q]
    refine xA0_1 hb ?_;(try clear hb);intro hT1 hb;refine xA2_0 hT1 ?_;(try clear hT1);intro b0 br hT2;subst hT2
    refine codeAny_handlers_suite (wpAny_mono (land_ok CO hs hf) (fun zz s2 hF1=>xA0_1 hF1 fun hs2 hf2=>?_) fun zz zz e=>e)
    exact wpAny_mono (hb _ o s2 H ls Q _ hs2 (h.2.1 q)) (fun f s3 hf3=>hf3) fun zz zz e=>e
  · rw [decide_eq_false q]
    exact hr A o s H ls Q E e C hs hf (h.2.2 q)
noncomputable def sTry (wb:WS) (wh:Addr -> WR):WS:=fun ls Qn Qr X H=>wb ls Qn Qr (fun C H'=>wh C ls Qr H') H
theorem s_try (CO:CxOk G c) {outer:List Env} (hst:c.stack = c.env :: outer) {b:List Stmt} {h0:ExceptHandler} {hs:List ExceptHandler} {pos:Pos} {wb:WS} {wh:Addr -> WR} (hb:SX G c n b wb) (hh:HOk G c (h0 :: hs) wh):SS G c n (.Try b (h0 :: hs) [] [] pos) (sTry wb wh):=fun A o s H ls Qn Qr X hA hs h=>by
  refine xA1_1 CO.frame ?_;intro L hL _
  refine wpAny_Try_except (wpAny_mono (hb A o s H ls Qn Qr _ hA hs h) (fun f s1 hf=>?_) fun e s1 he=>?_)
  · cases f with
    | next => exact wpAny_execs_nil hf
    | ret v => exact hf
    | brk => exact hf.elim
    | cont => exact hf.elim
  · refine xA3_3 he ?_;(try clear he);intro ea C H' hT1;subst hT1;intro hs1 hX hf
    refine wpAny_mono (note_ok CO hA.1 hst hL hs1 hf) (fun zz s2 hF1=>xA0_1 hF1 fun hs2 hf2=>?_) fun zz zz e=>e
    refine wpAny_mono (land_ok CO hs2 hf2) (fun zz s3 hF1=>xA0_1 hF1 fun hs3 hf3=>?_) fun zz zz e=>e
    refine wpAny_mono (hh A o s3 H' ls Qr _ ea C hs3 hf3 hX) (fun f s4 h4=>?_) fun zz zz e=>e
    cases f with
    | ret v => exact h4
    | next => obtain ⟨_,_,_,h⟩ := h4;exact h.elim
    | brk => exact h4.elim
    | cont => exact h4.elim
end
theorem codeAmong_app {pos:Pos} {cv:Value} (l r:List Value) (h:TriplesOk l) (hn:codeAmong pos l = some cv):codeAmong pos (l ++ r) = some cv:=by
  fun_induction TriplesOk l with
  | case1 => cases hn
  | case2 a t b u x rest ih =>
    simp only [List.cons_append,codeAmong] at hn ⊢
    split at hn
    · rename_i hc;rw [if_pos hc];exact hn
    · rename_i hc;rw [if_neg hc];exact ih h hn
  | case3 l h1 h2 => exact h.elim
theorem codeAmong_last {pos q:Pos} {c cv:Value} (l:List Value) (h:TriplesOk l) (hn:codeAmong q l = none) (e:codeAmong q (l ++ [rawInt pos.line,rawInt pos.col,c]) = some cv):cv = c /\ pos.line = q.line /\ pos.col = q.col:=by
  fun_induction TriplesOk l with
  | case1 =>
    simp only [List.nil_append,codeAmong,rawInt] at e
    split at e
    · rename_i hc
      simp only [Bool.and_eq_true,beq_iff_eq] at hc
      exact (xI0_2 ((Option.some.inj e).symm) (by lia) (by lia))
    · cases e
  | case2 a t b u x rest ih =>
    simp only [List.cons_append,codeAmong] at hn e
    split at hn
    · cases hn
    · rename_i hc;rw [if_neg hc] at e;exact ih h hn e
  | case3 l h1 h2 => exact h.elim
section
variable {G:Gl} {c:Cx} {n:Nat}
theorem St.tabGrow {o:Org} {H:MH} {ls:List V} {s s':Shared} (GO:GlOk G) (C:CxOk G c) (x:St G c o H ls s) (hk:∀ b y,b ≠ G.P -> s.heap.get? b = some y -> s'.heap.get? b = some y) (ht:TabInv G s'.heap) (hg:s'.gens = s.gens) (hos:s'.os = s.os):St G c o H ls s':=by
  refine xA1_2 x.tab ?_;intro ps hP _ _
  refine xA1_2 (id ht) ?_;intro ps' hP' _ _
  have hex:∀ b y,s.heap.get? b = some y -> ∃ z,s'.heap.get? b = some z:=fun b y e=>by
    by_cases q:b = G.P
    · exact ⟨_,q ▸ hP'⟩
    · exact ⟨y,hk b y q e⟩
  have nP:∀ b y,s.heap.get? b = some y -> (∀ vs,y.data ≠ .fields vs) -> b ≠ G.P:=fun b y e h q=>by rw [q,hP] at e;cases e;exact h _ rfl
  refine ⟨hg.trans x.gens,hos.trans x.os,fun b y e=>hk b y (fun q=>by rw [q,GO.noP] at e;cases e) (x.base b y e),fun a m e=>?_,fun a ha=>?_,fun y ca e=>?_,ht,⟨?_,fun i y hi hy=>?_⟩,?_,?_⟩
  · refine xA0_4 (x.own a m e) ?_;intro h1 h2 h3 h4 hT1;refine xA1_1 hT1 ?_;(try clear hT1);intro ob h5 h6
    exact (xI0_4 h1 h2 h3 h4 (xI1_1 ob (hk _ _ h2 h5) h6))
  · refine xA0_1 (x.ownEx a ha) ?_;intro h1 hT1;refine xA1_0 hT1 ?_;(try clear hT1);intro ob h2
    exact ⟨h1,hex a ob h2⟩
  · refine xA0_1 (x.free y ca e) ?_;intro h1 hT1;refine xA1_0 hT1 ?_;(try clear hT1);intro oc h2
    exact ⟨h1,hex ca oc h2⟩
  · refine xA1_1 x.frame.loc ?_;intro m hn hl
    exact (xI1_1 m (hn.at' fun ob e=>hk _ _ (fun q=>C.noP (q ▸ C.loc)) e) hl)
  · refine xA2_2 (x.frame.cell i y hi hy) ?_;intro ca u h1 hT1 h4;refine xA1_1 hT1 ?_;(try clear hT1);intro oc h2 h2'
    exact (xI2_2 ca u h1 (xI1_1 oc (hk _ _ (nP _ _ h2 fun vs q=>by rw [h2'] at q;cases q) h2) h2') h4)
  · exact funFrames_of x.fr fun b hb y e hne=>(xI1_1 y (hk b y (nP b y e hne) e) hne)
  · refine ⟨fun b y h1 h2 h3 h4 h5=>hk b y h3 (x.tr.keep b y h1 h2 h3 h4 h5),fun b y h1 h2 h3=>?_,x.tr.claim,fun b y e=>?_⟩
    · refine xA1_0 (x.tr.frm b y h1 h2 h3) ?_;intro sl e
      refine xA0_1 (funFrames_mem x.fr h2) ?_;intro _ hT1;refine xA1_1 hT1 ?_;(try clear hT1);intro ob e' hne
      rw [e] at e';cases e'
      exact ⟨sl,hk _ _ (nP _ _ e hne) e⟩
    · refine xA1_0 (x.tr.ex b y e) ?_;intro z hz
      exact hex b z hz
noncomputable abbrev lamObj (G:Gl) (qual:Str) (params:Arguments) (body:Expr) (scope:Scope) (clos:List (Str × Addr)) (cv ctv:Value):Obj :=
  { cls:=.type "function",data:=.func (kla_fn "<lambda>" qual params body scope clos ((G.mg "__name__").getD .none) cv ctv) }
theorem tri_no {l:List Value} {x:Str} {t:Tok} (h:TriplesOk l) (k:l[1]? = some (.str x t)):False:=by
  match l,h with
  | .int _ _ :: .int _ _ :: _,_ => exact nomatch k
theorem lam_ok (GO:GlOk G) (CO:CxOk G c) {cc:Addr} (hcode:c.env.code = .ref cc) (CH:CodeHd G.h₀ cc G.P) {params:Arguments} {body:Expr} {lscope:Scope} {lpos:Pos} {clos:List (Str × Addr)} (hdef:defaultsOf params c.env = ([],[])) (hlam:(lpos,c.env.qual ++ "<lambda>") ∈ G.lams)
    (hun:∀ p ∈ G.lams,lpos.line = p.1.line -> lpos.col = p.1.col -> p.2 = c.env.qual ++ "<lambda>") (hcl:closureFor lscope c.env = pure clos) {A:Around} {o:Org} {s:Shared} {H:MH} {ls:List V} {E:Value -> Shared -> Prop} {Q:Value -> Shared -> Prop} (hs:St G c o H ls s)
    (h:∀ f s' cv ctv,s.heap.get? f = none -> St G c o H ls s' -> (∀ b y,b ≠ G.P -> s.heap.get? b = some y -> s'.heap.get? b = some y) -> s'.heap.get? f = some (lamObj G (c.env.qual ++ "<lambda>") params body lscope clos cv ctv) -> s'.heap.CodeRec cv (c.env.qual ++ "<lambda>") -> Q (.ref f) s') :
    wpAny (model G.prog G.w) A (eval (.Lambda params body lscope lpos) c.env) Q E s:=by
  refine xA1_2 hs.tab ?_;intro ps hP ht hlams
  refine xA2_0 GO.bmain ?_;intro bm ob hT1;refine xA0_5 hT1 ?_;(try clear hT1);intro b1 b2 b3 b4 b5 b6
  have hgP:mainGlobals ≠ G.P:=fun q=>by
    refine xA3_2 GO.g ?_;intro o es ep e hd _
    rw [q,GO.noP] at e;cases e
  have hbP:bm ≠ G.P:=fun q=>by rw [q,GO.noP] at b3;cases b3
  have hbG:bm ≠ mainGlobals:=fun q=>by
    refine xA3_2 GO.g ?_;intro o es ep e hd _
    rw [q,e] at b3;cases b3;rw [hd] at b6;cases b6
  have hgs:=GO.g.keeps hs.base
  refine kla_eval hdef ?_
  cases hf:codeAmong lpos ps.toList with
  | some cv =>
    refine kla_makeFunctionHit (mg:=G.mg) hcl CO.glob hgs hcode (CH.keeps hs.base) hP ht hf (xI2_7 bm ob b1 b2 hbG hbP (hs.base _ _ b3) b4 b5 b6) fun ctv h' tk hk hsz=>?_
    have hk':∀ b y,s.heap.get? b = some y -> (h'.push (lamObj G (c.env.qual ++ "<lambda>") params body lscope clos cv ctv)).get? b = some y:=fun b y e=>Heap.get?_push_of_some _ (hk b y e)
    refine h h'.objs.size _ cv ctv (Heap.get?_none_of_le hsz) (hs.keeps hk' rfl rfl) (fun b y zz e=>hk' b y e) (Heap.get?_push_size _ rfl) ?_
    exact (hlams _ hlam cv hf).keeps hk'
  | none =>
    refine kla_makeFunction (mg:=G.mg) hcl CO.glob hgs hcode (CH.keeps hs.base) hP ht hf hgP (xI2_7 bm ob b1 b2 hbG hbP (hs.base _ _ b3) b4 b5 b6) fun c' ctv h' tk hx hge hlt hrec htb=>?_
    have hk':∀ b y,b ≠ G.P -> s.heap.get? b = some y -> (h'.push (lamObj G (c.env.qual ++ "<lambda>") params body lscope clos (.ref c') ctv)).get? b = some y:=fun b y hb e=>Heap.get?_push_of_some _ (hx b y hb e)
    have hrec':=hrec.keeps (h':=h'.push (lamObj G (c.env.qual ++ "<lambda>") params body lscope clos (.ref c') ctv)) fun b y e=>Heap.get?_push_of_some _ e
    have tab:TabInv G (h'.push (lamObj G (c.env.qual ++ "<lambda>") params body lscope clos (.ref c') ctv)):=by
      refine (xI1_2 _ (Heap.get?_push_of_some _ htb) ?_ (fun p hp cv hc=>?_))
      · rw [Array.toList_append];exact TriplesOk_snoc _ _ _ _ ht
      · rw [Array.toList_append] at hc
        cases hq:codeAmong p.1 ps.toList with
        | some cv' =>
          rw [codeAmong_app _ _ ht hq] at hc
          cases hc
          refine xA4_3 (hlams p hp cv hq) ?_;intro ca oc vs t e1 e2 e3 e4
          refine (xI4_3 ca oc vs t e1 (hk' _ _ (fun q=>?_) e2) e3 e4)
          rw [q,hP] at e2;cases e2
          simp only [Data.fields.injEq] at e3
          rw [<- e3] at e4
          have:ps.toList[1]? = some (.str p.2 t):=by simpa using e4
          exact (tri_no ht this).elim
        | none =>
          refine xA0_2 (codeAmong_last _ ht hq hc) ?_;intro hT1;subst hT1;intro h1 h2
          rw [hun p hp h1 h2]
          exact hrec'
    exact h h'.objs.size _ (.ref c') ctv (Heap.get?_none_of_le (Nat.le_trans hge (Nat.le_of_lt hlt))) (hs.tabGrow GO CO hk' tab rfl rfl) hk' (Heap.get?_push_size _ rfl) hrec'
end
section
variable {G:Gl} {c:Cx} {n:Nat}
theorem enter {c':Cx} (CO:CxOk G c) {o:Org} {H:MH} {ls ls':List V} {s:Shared} {h₁:Heap} {m:Str -> Option Value} {tk:Nat} (hs:St G c o H ls s) (hk₁:∀ b y,s.heap.get? b = some y -> h₁.get? b = some y) (hns:h₁.Ns s.heap.objs.size m)
    (hL:c'.env.locals = s.heap.objs.size) (hf:c'.env.frame = some s.heap.objs.size) (hown:c'.own = [s.heap.objs.size]) (hst:c'.stack = c'.env :: c.stack) (hkind:c'.env.scope.kind = .function)
    (hcells:∀ x ca,c'.env.cells.lookup x = some ca -> H ca = none /\ ∃ ob,s.heap.get? ca = some ob)
    (hloc:∀ (i:Nat) x v,c'.names[i]? = some x -> c'.env.kindOf x = some .local -> ls'[i]? = some v -> v ≠ .unb -> ∃ u,m x = some u /\ er u = v)
    (hcell:∀ (i:Nat) x,c'.names[i]? = some x -> c'.env.kindOf x ≠ some .local -> ∃ ca u,c'.env.cells.lookup x = some ca /\ s.heap.IsCell ca u /\ ∀ v,ls'[i]? = some v -> v ≠ .unb -> ∃ y,u = some y /\ er y = v) :
    St G c' ⟨H,h₁⟩ H ls' { s with heap:=h₁,toks:=tk }:=by
  have hLs:=size_none s.heap
  refine xA0_5 (hs.fresh hLs) ?_;intro f1 f2 f3 f4 f5 f6
  have hnow:∀ b y,s.heap.get? b = some y -> b ≠ s.heap.objs.size:=fun b y e q=>by rw [q,hLs] at e;cases e
  refine xA3_3 (id hns) ?_;intro ol es ep n1 n2 n3 n4
  have hfrm:c'.frames = s.heap.objs.size :: c.frames:=by unfold Cx.frames;rw [hst,List.filterMap_cons,hf]
  refine ⟨hs.gens,hs.os,fun b y e=>hk₁ b y (hs.base b y e),fun a mm e=>?_,fun a ha=>?_,fun x ca e=>?_,hs.tab.keeps hk₁,⟨(xI1_1 m (hL ▸ hns) hloc),fun i x hi hx=>?_⟩,?_,⟨fun b y e zz zz zz zz=>e,fun b y e zz zz=>⟨y.slots,e⟩,fun b y zz e=>e,fun b y e=>⟨y,e⟩⟩⟩
  · refine xA0_4 (hs.own a mm e) ?_;intro h1 h2 h3 h4 hT1;refine xA1_1 hT1 ?_;(try clear hT1);intro ob h5 h6
    have hne:=hnow a ob h5
    exact (xI0_4 h1 h2 (fun q=>hne (by rw [hown] at q;exact List.mem_singleton.mp q)) (fun q=>(by rw [hfrm] at q;exact (List.mem_cons.mp q).elim hne h4)) (xI1_1 ob (hk₁ _ _ h5) h6))
  · rw [hown] at ha
    rw [List.mem_singleton.mp ha]
    exact ⟨f2,⟨ ol,n1⟩⟩
  · refine xA0_1 (hcells x ca e) ?_;intro h1 hT1;refine xA1_0 hT1 ?_;(try clear hT1);intro ob h2
    exact ⟨h1,⟨ ob,hk₁ _ _ h2⟩⟩
  · refine xA2_2 (hcell i x hi hx) ?_;intro ca u h1 h2 h3
    exact (xI2_2 ca u h1 (h2.keeps hk₁) h3)
  · rw [hst]
    exact Heap.FunFrames.cons (by rw [hkind];decide) hf hns f2 (hs.fr.of_keeps fun b y e zz=>(xI1_1 y (hk₁ b y e) rfl))
noncomputable def cxL (c:Cx) (lscope:Scope) (qual:Str) (clos:List (Str × Addr)) (f:Addr) (cv:Value) (names:List Str) (L:Addr) (stack:List Env):Cx :=
  { env:=newEnv lscope L mainGlobals clos (qual ++ ".<locals>.") (some f) cv none builtinsNs,stack:=newEnv lscope L mainGlobals clos (qual ++ ".<locals>.") (some f) cv none builtinsNs :: stack,names:=names,own:=[L],cst:=fun zz=>false }
theorem expr_ends {c':Cx} {A:Around} {o o':Org} {H:MH} {ls ls':List V} {s:Shared} {Q:QV} {X:XP} (C:CxOk G c) (C':CxOk G c') (hA:AOk (n + 1) c A) (x:St G c o H ls s) (hk:∀ b y,s.heap.get? b = some y -> o'.h.get? b = some y) (ho':o'.H = H)
    {L:Addr} (hL:s.heap.get? L = none) (hst:c'.stack = c'.env :: c.stack) (hLe:c'.env.frame = some L) (hown':∀ b ∈ c'.own,s.heap.get? b = none) {e:Expr} {s₁:Shared}
    (h:wpAny (model G.prog G.w) (A.deeper c'.env) (eval e c'.env) (RV G c' o' ls' Q) (PX G c' o' ls' X) s₁) :
    wpAny (model G.prog G.w) (A.deeper c'.env) (eval e c'.env) (fun v s'=>RC G c o ls Q X (.ok (.ret v)) s')
      (fun e' s'=>wpAny (model G.prog G.w) (A.deeper c'.env) (leaving c'.env e') (fun zz s''=>RC G c o ls Q X (.error e') s'') (fun e'' s''=>RC G c o ls Q X (.error e'') s'') s') s₁:=by
  have hfrm:c'.frames = L :: c.frames:=by unfold Cx.frames;rw [hst,List.filterMap_cons,hLe]
  have hfr:∀ b ∈ c.frames,b ∈ c'.frames /\ b ∉ c'.own:=fun b hb=>⟨by rw [hfrm];exact .tail _ hb,fun q=>by
    refine xA0_1 (funFrames_mem x.fr hb) ?_;intro _ hT1;refine xA1_1 hT1 ?_;(try clear hT1);intro ob e _
    rw [hown' b q] at e;cases e⟩
  have hfr':∀ b ∈ c'.frames,b ∈ c.frames ∨ s.heap.get? b = none:=fun b hb=>by
    rw [hfrm] at hb
    rcases List.mem_cons.mp hb with rfl | hb
    · exact .inr hL
    · exact .inl hb
  have tl:∀ {h:Heap},h.FunFrames G.h₀ c'.stack -> h.FunFrames G.h₀ c.stack:=fun h=>by rw [hst] at h;exact h.2.2
  refine wpAny_mono h (fun v s' hF1=>xA1_1 hF1 fun H' hs' hq=>(xI1_1 H' (x.back C hk ho' hfr hfr' hown' tl hs') hq)) fun e s' hx=>?_
  refine xA3_3 hx ?_;(try clear hx);intro ea Cl H' hT1;subst hT1;intro hs' hX hfl
  have hA':(A.deeper c'.env).frames = some c'.stack:=by rw [hst];exact Around.frames_deeper hA.1
  refine wpAny_mono (leave_ok C' hA' hst hLe hs' hfl) (fun zz s'' hF1=>xA0_1 hF1 fun hs'' hfl''=>?_) fun zz zz e=>e
  refine (xI3_3 ea Cl H' rfl (x.back C hk ho' hfr hfr' hown' tl hs'') hX ?_)
  refine xA6_10 hfl'' ?_;(try clear hfl'');intro oe vs a0 T oT ts h1 h2 h3 h4 h5 h6 h7 h8 h9 h10 h11
  exact (xI3_5 oe vs a0 h1 h2 h3 h4 (New.back x hk (fun b hb=>(hfr b hb).1) h5) (.inr (xI3_5 T oT ts h6 h7 (New.back x hk (fun b hb=>(hfr b hb).1) h8) h9 h10 (.inl h11))))
theorem lam_call (GO:GlOk G) {c₂:Cx} (CO:CxOk G c) (CO₂:CxOk G c₂) {params:Arguments} {body:Expr} {lscope:Scope} {fr:List (Str × Nat)} {qual:Str} {cv ctv:Value} {wb:WE} (hcellS:∀ x ∈ lscope.names,x.2 ≠ .cell) (hnd:(fr.map (·.1)).Nodup) (hnol:∀ p ∈ fr,lscope.names.lookup p.1 ≠ some .local)
    (hfr:∀ p ∈ fr,c.names[p.2]? = some p.1 /\ c.env.kindOf p.1 ≠ some .local /\ (p.1,NameKind.free) ∈ lscope.names)
    (hbind:∀ cl pm cv ctv,bindArgs (kla_fn "<lambda>" qual params body lscope cl pm cv ctv) ⟨[],[]⟩ = pure [])
    (hb:∀ f cv L st,CxOk G (cxL c lscope qual (clOf c.env lscope.names []) f cv (fr.map (·.1)) L st) -> SE G (cxL c lscope qual (clOf c.env lscope.names []) f cv (fr.map (·.1)) L st) n body wb)
    {A:Around} {o o₂:Org} {H:MH} {ls ls₂:List V} {sc s:Shared} {f:Addr} {Q:QV} {X:XP} (hA:AOk (n + 1) c₂ A) (hsc:St G c o H ls sc) (hcs:∀ b y,b ≠ G.P -> sc.heap.get? b = some y -> s.heap.get? b = some y) (hs:St G c₂ o₂ H ls₂ s)
    (hf:s.heap.get? f = some (lamObj G qual params body lscope (clOf c.env lscope.names []) cv ctv)) (hrec:s.heap.CodeRec cv qual)
    (h:wb (fr.map fun p=>ls.getD p.2 .unb) Q X H) (hco:lscope.isCoroutine = false:=by rfl) (hgen:lscope.isGenerator = false:=by rfl) (hkind:lscope.kind = .function:=by rfl) :
    codeAny (model G.prog G.w) A (.call (.ref f) ⟨[],[]⟩) (RC G c₂ o₂ ls₂ Q X) s:=by
  have hroom:A.depth < recursionLimit:=by have:=hA.2.2.1;show A.depth < 1000;exact oA183 this
  refine kla_callFunE hroom hf rfl hco hgen rfl hrec ?_
  rw [hbind]
  refine wpAny_pure (wpAny_newFunctionEnv hcellS (by intro x hx;cases hx) (fun h₁ hns hsb=>⟨(GO.nolimit.keeps hs.base).keeps fun b y e=>?_,?_⟩) hkind)
  · exact hsb.extBut b y (Nat.ne_of_lt (Heap.lt_size e)) (Heap.get?_push_of_some _ e)
  have hk₁:∀ b y,s.heap.get? b = some y -> h₁.get? b = some y:=fun b y e=>hsb.extBut b y (Nat.ne_of_lt (Heap.lt_size e)) (Heap.get?_push_of_some _ e)
  have cell_c:∀ p ∈ fr,∃ ca u,c.env.cells.lookup p.1 = some ca /\ sc.heap.IsCell ca u /\ ∀ v,ls[p.2]? = some v -> v ≠ .unb -> ∃ y,u = some y /\ er y = v:=fun p hp=>by
    refine xA0_2 (hfr p hp) ?_;intro h1 h2 _
    exact hsc.frame.cell p.2 p.1 h1 h2
  have up:∀ ca u,sc.heap.IsCell ca u -> s.heap.IsCell ca u:=fun ca u hF1=>xA1_1 hF1 fun oc e1 e2=>(xI1_1 oc (hcs _ _ (fun q=>by
    refine xA1_1 hsc.tab ?_;intro ps hP _
    rw [q,hP] at e1;cases e1;cases e2) e1) e2)
  refine xA0_5 (hs.fresh (size_none s.heap)) ?_;intro f1 f2 f3 f4 f5 f6
  have CO₃:CxOk G (cxL c lscope qual (clOf c.env lscope.names []) f cv (fr.map (·.1)) s.heap.objs.size c₂.stack) :=
    { kind:=hkind,glob:=rfl,blt:=rfl,nodup:=hnd,loc:=List.mem_singleton.mpr rfl,cells:=fun x ca hx=>(by cases hx),apart:=fun x y ca h1 h2=>CO.apart x y ca (clOf_mem lscope.names [] (by intro _ h;cases h) _ (mem_of_lookup h1)) (clOf_mem lscope.names [] (by intro _ h;cases h) _ (mem_of_lookup h2)),
      frame:=(xI1_1 _ rfl (xI2_1 _ _ rfl rfl)),noP:=fun q=>f3 (List.mem_singleton.mp q).symm }
  have s3:St G (cxL c lscope qual (clOf c.env lscope.names []) f cv (fr.map (·.1)) s.heap.objs.size c₂.stack) ⟨H,h₁⟩ H (fr.map fun p=>ls.getD p.2 .unb) { s with heap:=h₁,toks:=s.toks + 0 }:=by
    refine enter CO₂ hs hk₁ hns rfl rfl rfl rfl hkind (fun x ca e=>?_) (fun i x v hi hx hv hne=>?_) (fun i x hi hx=>?_)
    · have e':=clOf_mem lscope.names [] (by intro _ h;cases h) _ (mem_of_lookup e)
      refine xA0_1 (hsc.free x ca e') ?_;intro h1 hT1;refine xA1_0 hT1 ?_;(try clear hT1);intro oc h2
      by_cases q:ca = G.P
      · refine xA1_1 hs.tab ?_;intro ps hP _
        exact ⟨h1,⟨ _,q ▸ hP⟩⟩
      · exact ⟨h1,⟨ oc,hcs _ _ q h2⟩⟩
    · exfalso
      have hi':(fr.map (·.1))[i]? = some x:=hi
      rw [List.getElem?_map] at hi'
      refine xA1_1 (Option.map_eq_some_iff.mp hi') ?_;intro p hp hT1;subst hT1
      exact hnol p (List.mem_of_getElem? hp) hx
    · have hi':(fr.map (·.1))[i]? = some x:=hi
      rw [List.getElem?_map] at hi'
      refine xA1_1 (Option.map_eq_some_iff.mp hi') ?_;intro p hp hT1;subst hT1
      have hpm:=List.mem_of_getElem? hp
      refine xA2_2 (cell_c p hpm) ?_;intro ca u g1 g2 g3
      refine (xI2_2 ca u (clOf_lookup g1 (hfr p hpm).2.2) (up _ _ g2) (fun v hv hne=>?_))
      rw [List.getElem?_map,hp] at hv
      have hv2:ls.getD p.2 .unb = v:=by simpa using hv
      cases q3:ls[p.2]? with
      | none => rw [List.getD_eq_getElem?_getD,q3] at hv2;exact (hne hv2.symm).elim
      | some z => rw [List.getD_eq_getElem?_getD,q3] at hv2;exact g3 v (by rw [q3];exact congrArg some hv2) hne
  refine kla_codeExpr (expr_ends (n:=n) (o':=⟨H,h₁⟩) (ls':=fr.map fun p=>ls.getD p.2 .unb) CO₂ CO₃ hA hs hk₁ rfl (size_none s.heap) rfl rfl (fun b hb=>by rw [List.mem_singleton.mp hb];exact size_none s.heap) ?_)
  exact hb f cv _ _ CO₃ _ ⟨H,h₁⟩ _ H _ Q X (hA.deep rfl) s3 h
end
section
variable {G:Gl} {c:Cx} {n:Nat}
theorem try_at (CO:CxOk G c) {outer:List Env} (hst:c.stack = c.env :: outer) {b:List Stmt} {h0:ExceptHandler} {hs:List ExceptHandler} {pos:Pos} {wh:Addr -> WR} (hh:HOk G c (h0 :: hs) wh) {A:Around} {o:Org} {s:Shared} {ls:List V} {Qn:QL} {Qr:QV} {X:XP} (hA:AOk n c A)
    (h:wpAny (model G.prog G.w) A (execs b c.env) (RF G c o Qn Qr) (PX G c o ls (fun C H'=>wh C ls Qr H')) s):wpAny (model G.prog G.w) A (exec (.Try b (h0 :: hs) [] [] pos) c.env) (RF G c o Qn Qr) (PXs G c o X) s:=by
  refine xA1_1 CO.frame ?_;intro L hL _
  refine wpAny_Try_except (wpAny_mono h (fun f s1 hf=>?_) fun e s1 he=>?_)
  · cases f with
    | next => exact wpAny_execs_nil hf
    | ret v => exact hf
    | brk => exact hf.elim
    | cont => exact hf.elim
  · refine xA3_3 he ?_;(try clear he);intro ea C H' hT1;subst hT1;intro hs1 hX hf
    refine wpAny_mono (note_ok CO hA.1 hst hL hs1 hf) (fun zz s2 hF1=>xA0_1 hF1 fun hs2 hf2=>?_) fun zz zz e=>e
    refine wpAny_mono (land_ok CO hs2 hf2) (fun zz s3 hF1=>xA0_1 hF1 fun hs3 hf3=>?_) fun zz zz e=>e
    refine wpAny_mono (hh A o s3 H' ls Qr _ ea C hs3 hf3 hX) (fun f s4 h4=>?_) fun zz zz e=>e
    cases f with
    | ret v => exact h4
    | next => obtain ⟨_,_,_,h⟩ := h4;exact h.elim
    | brk => exact h4.elim
    | cont => exact h4.elim
noncomputable def wLets (fr:List (Str × Nat)) (wb:WE) (wh:Addr -> WR):WE:=fun ls Q X H=>∀ f,wb (fr.map fun p=>ls.getD p.2 .unb) (fun zz H'=>Q (.bool true) H') (fun C H'=>wh C [.ref f] Q H') H
theorem r_lets (GO:GlOk G) (CO:CxOk G c) {fa:Addr} {name qual:Str} {params:Arguments} {body:List Stmt} {scope:Scope} {dV kV doc pm:Value} {an:Option Addr} {cdv ct:Value} (F:FnRec G fa name qual params body scope dV kV doc pm an cdv ct) (hkeep:keepIn G.K (.ref fa) = true)
    (hcellS:∀ x ∈ scope.names,x.2 ≠ .cell) (hloc:scope.names.lookup ("deed" : Str) = some .local) (hbind:∀ s v,BindsTo s (fnX name qual params body scope [] dV kV doc pm an cdv ct) ⟨[v],[]⟩ [("deed",v)])
    {p1 p2 p3 p4 p5 p6:Pos} {k:Nat} {h0:ExceptHandler} {hds:List ExceptHandler} {wh:Addr -> WR} (hbody:body = [.Try [.Expr (.Call (.Name "deed" p1) [] [] p2) p3] (h0 :: hds) [] [] p4,.Return (some (.Constant (.bool true) k p5)) p6])
    (hh:∀ L st,CxOk G (cxP qual scope fa cdv ["deed"] L st) -> HOk G (cxP qual scope fa cdv ["deed"] L st) (h0 :: hds) wh)
    {cc:Addr} (hcode:c.env.code = .ref cc) (CH:CodeHd G.h₀ cc G.P) {lparams:Arguments} {lbody:Expr} {lscope:Scope} {lpos:Pos} (hdef:defaultsOf lparams c.env = ([],[])) (hlam:(lpos,c.env.qual ++ "<lambda>") ∈ G.lams)
    (hun:∀ p ∈ G.lams,lpos.line = p.1.line -> lpos.col = p.1.col -> p.2 = c.env.qual ++ "<lambda>") {fr:List (Str × Nat)} (hfree:∀ p ∈ lscope.names,p.2 = .free -> ∃ i,(p.1,i) ∈ fr) {wb:WE} (lcell:∀ x ∈ lscope.names,x.2 ≠ .cell) (hnd:(fr.map (·.1)).Nodup) (hnol:∀ p ∈ fr,lscope.names.lookup p.1 ≠ some .local)
    (hfr:∀ p ∈ fr,c.names[p.2]? = some p.1 /\ c.env.kindOf p.1 ≠ some .local /\ (p.1,NameKind.free) ∈ lscope.names)
    (lbind:∀ q cl pm cv ctv,bindArgs (kla_fn "<lambda>" q lparams lbody lscope cl pm cv ctv) ⟨[],[]⟩ = pure [])
    (hb:∀ f cv L st,CxOk G (cxL c lscope (c.env.qual ++ "<lambda>") (clOf c.env lscope.names []) f cv (fr.map (·.1)) L st) -> SE G (cxL c lscope (c.env.qual ++ "<lambda>") (clOf c.env lscope.names []) f cv (fr.map (·.1)) L st) n lbody wb)
    (hint:∀ L st,interactive (cxP qual scope fa cdv ["deed"] L st).env = false) {x:Str} {np pos:Pos} (hx:SE G c (n + 2) (.Name x np) (wVal (.ref fa)))
    (hco:scope.isCoroutine = false:=by rfl) (hgen:scope.isGenerator = false:=by rfl) (hk:scope.kind = .function:=by rfl) (lco:lscope.isCoroutine = false:=by rfl) (lgen:lscope.isGenerator = false:=by rfl) (lkind:lscope.kind = .function:=by rfl) :
    SE G c (n + 2) (.Call (.Name x np) [.Lambda lparams lbody lscope lpos] [] pos) (wLets fr wb wh):=fun A o s H ls Q X hA hs h=>by
  refine wpAny_Call_NameR (hx.val hA hs (fun v s1 hs1 g1=>?_) fun zz zz e=>e)
  rw [er_ref g1]
  refine call_by GO (.ref fa hkeep) rfl ?_
  have hclos:closureFor lscope c.env = pure (clOf c.env lscope.names []):=closure_of fun p hp he=>by
    refine xA1_0 (hfree p hp he) ?_;intro i hi
    refine xA0_2 (hfr _ hi) ?_;intro h1 h2 _
    refine xA2_1 (hs1.frame.cell i p.1 h1 h2) ?_;intro ca _ h3 _
    exact ⟨ca,h3⟩
  have lam:∀ (Q':Value -> Shared -> Prop) (E':Value -> Shared -> Prop),(∀ f s' cv ctv,s1.heap.get? f = none -> St G c o H ls s' -> (∀ b y,b ≠ G.P -> s1.heap.get? b = some y -> s'.heap.get? b = some y) -> s'.heap.get? f = some (lamObj G (c.env.qual ++ "<lambda>") lparams lbody lscope (clOf c.env lscope.names []) cv ctv) -> s'.heap.CodeRec cv (c.env.qual ++ "<lambda>") -> Q' (.ref f) s') ->
      wpAny (model G.prog G.w) A (eval (.Lambda lparams lbody lscope lpos) c.env) Q' E' s1:=fun Q' E' hq=>lam_ok GO CO hcode CH hdef hlam hun hclos hs1 hq
  have es:∃ t,backTo pos (starEach [.Lambda lparams lbody lscope lpos] c.env) = (false,t) :: [] /\ (t = eval (.Lambda lparams lbody lscope lpos) c.env ∨ t = (do standAt pos;eval (.Lambda lparams lbody lscope lpos) c.env)):=by
    first | exact (xI1_1 _ rfl (.inl rfl)) | exact ⟨_,rfl,.inr rfl⟩
  refine xA1_1 es ?_;(try clear es);intro t et ht
  rw [et]
  refine PySem.Calls.evalArgs_plain (PySem.Calls.spliced_cons ?_)
  have main:∀ f s2 cv ctv,s1.heap.get? f = none -> St G c o H ls s2 -> (∀ b y,b ≠ G.P -> s1.heap.get? b = some y -> s2.heap.get? b = some y) -> s2.heap.get? f = some (lamObj G (c.env.qual ++ "<lambda>") lparams lbody lscope (clOf c.env lscope.names []) cv ctv) -> s2.heap.CodeRec cv (c.env.qual ++ "<lambda>") ->
      wpAny (model G.prog G.w) A (call (.ref fa) [.ref f]) (RV G c o ls Q) (PX G c o ls X) s2:=fun f s2 cv ctv hf0 hs2 hk2 hf hrec=>by
    refine xA3_0 F.obj ?_;intro oc od sl ho
    have hroom:A.depth < recursionLimit:=by have:=hA.2.2.1;show A.depth < 1000;lia
    refine wpAny_call (codeAny_mono (R:=RC G c o ls Q X) ?_ fun r s' hr=>by
      cases r with
      | error e => exact hr
      | ok f => cases f <;> exact hr)
    refine codeAny_call_def hroom (hs2.base _ _ ho) rfl (GO.nolimit.keeps hs2.base) (F.code.keeps hs2.base) rfl (hbind _ _) hcellS (fun y hy=>by rw [List.mem_singleton.mp hy];exact hloc) (fun h₁ hns hk₁=>?_) hco hgen hk
    have hLs:=size_none s2.heap
    refine xA0_5 (hs2.fresh hLs) ?_;intro f1 f2 f3 f4 f5 f6
    have C':CxOk G (cxP qual scope fa cdv ["deed"] s2.heap.objs.size c.stack):=cxP_ok (by simp) hcellS hk f3
    have s':St G (cxP qual scope fa cdv ["deed"] s2.heap.objs.size c.stack) ⟨H,h₁⟩ H [.ref f] { s2 with heap:=h₁,toks:=s2.toks + [("deed",Value.ref f)].length }:=by
      refine enter CO hs2 hk₁ hns rfl rfl rfl rfl hk (fun x ca e=>(nomatch e)) (fun i y v hi zz hv hne=>?_) fun i y hi hy=>?_
      · have hi':([("deed" : Str)])[i]? = some y:=hi
        cases i with
        | zero => cases hi';cases hv;exact (xI1_1 (.ref f) (by simp) rfl)
        | succ i => simp at hi'
      · have hi':([("deed" : Str)])[i]? = some y:=hi
        cases i with
        | zero => cases hi';exact (hy hloc).elim
        | succ i => simp at hi'
    have hA1:AOk (n + 1) (cxP qual scope fa cdv ["deed"] s2.heap.objs.size c.stack) (A.deeper (cxP qual scope fa cdv ["deed"] s2.heap.objs.size c.stack).env):=AOk.deep (n:=n + 1) hA rfl
    refine body_ends (n:=n + 1) (o':=⟨H,h₁⟩) CO C' hA hs2 hk₁ rfl hLs rfl rfl (fun b hb=>by rw [List.mem_singleton.mp hb];exact hLs) ?_
    rw [hbody]
    refine wpAny_execs_cons (wpAny_mono (try_at C' rfl (hh _ _ C') (ls:=[.ref f]) (Qn:=fun zz H'=>Q (.bool true) H') (Qr:=Q) hA1 (wpAny_execs_cons (wpAny_Expr_any (wpAny_Call_NameR (wpAny_Name (wpAny_loadName_local hk hloc hns (v:=.ref f) (by simp) ?_) (by decide))) (hint _ _) rfl))) (fun fl s3 h3=>?_) fun zz zz e=>e)
    · refine callWith_F0 ⟨_,_,_,_,hk₁ _ _ hf⟩ (wpAny_call (codeAny_mono (lam_call GO CO C' lcell hnd hnol hfr (lbind _) hb hA1 hs2 (fun b y zz e=>hk₁ b y e) s' (hk₁ _ _ hf) (hrec.keeps hk₁) (h f) lco lgen lkind) fun r s3 hr=>?_))
      cases r with
      | error e => exact hr
      | ok fl =>
        cases fl with
        | ret v => obtain ⟨H3,hs3,h3⟩ := hr;exact wpAny_execs_nil (xI2_1 _ H3 hs3 h3)
        | next => exact hr.elim
        | brk => exact hr.elim
        | cont => exact hr.elim
    · cases fl with
      | next =>
        refine xA2_1 h3 ?_;(try clear h3);intro ls3 H3 hs3 h3
        exact wpAny_execs_cons (wpAny_Return_some (wpAny_Constant_bool (xI2_1 ls3 H3 hs3 h3)))
      | ret v => exact h3
      | brk => exact h3.elim
      | cont => exact h3.elim
  rcases ht with rfl | rfl
  · exact lam _ _ fun f s2 cv ctv a1 a2 a3 a4 a5=>PySem.Calls.spliced_nil (xI0_2 rfl a2.base (main f s2 cv ctv a1 a2 a3 a4 a5))
  · exact wpAny_bind (wpAny_standAt (lam _ _ fun f s2 cv ctv a1 a2 a3 a4 a5=>PySem.Calls.spliced_nil (xI0_2 rfl a2.base (main f s2 cv ctv a1 a2 a3 a4 a5))))
end
noncomputable def small (a:Int):Prop:=-(2 ^ 62) < a /\ a < 2 ^ 62
theorem small_abs {a:Int} (h:small a):a.natAbs < 2 ^ 64:=by unfold small at h;omega
theorem small_bits {a:Int} (h:small a):Builtin.Int.intBits a <= 64:=intBits_le_64 (by unfold small at h;lia) (by unfold small at h;lia)
theorem small_noPylong {x y:Int} (h:small y):Builtin.divisionGoesByPylong x y = false:=by
  have h1:=small_bits h
  unfold Builtin.Int.intBits at h1
  unfold Builtin.divisionGoesByPylong
  have:(if y == 0 then 0 else y.natAbs.log2 / 30 + 1) <= 300:=by
    split
    · lia
    · rename_i hy;rw [if_neg hy] at h1;lia
  simp only [Bool.and_eq_false_iff,decide_eq_false_iff_not]
  left;exact oA120 this
noncomputable def onA (v:V) (i:Int -> Prop) (t:Str -> Prop) (y:List Nat -> Prop) (r:Addr -> Prop):Prop:=V.casesOn (motive:=fun zz=>Prop) v False False (fun zz=>False) i t y r (fun zz=>False) (fun zz=>False) False
theorem onA_k {v:Value} {i:Int -> Prop} {t:Str -> Prop} {y:List Nat -> Prop} {r:Addr -> Prop} {g:Prop} (h:onA (er v) i t y r) (k3:∀ a u,v = .int a u -> i a -> g) (k:∀ a u,v = .str a u -> t a -> g)
    (k4:∀ a u,v = .bytes a u -> y (a.toList.map UInt8.toNat) -> g) (k5:∀ a,v = .ref a -> r a -> g):g:=by
  cases v <;> first | exact (show False from h).elim | exact k _ _ rfl h | exact k3 _ _ rfl h | exact k4 _ _ rfl h | exact k5 _ rfl h
noncomputable def wAdd:W2:=fun x y Q zz H=>onA x (fun a=>onInt y fun b=>Q (.int (a + b)) H) (fun a=>onA y (fun zz=>False) (fun b=>a.length + b.length <= 1000 /\ Q (.str (a ++ b)) H) (fun zz=>False) fun zz=>False)
  (fun a=>onA y (fun zz=>False) (fun zz=>False) (fun b=>a.length + b.length <= 100000 /\ Q (.bytes (a ++ b)) H) fun zz=>False)
  (fun a=>onRef y fun b=>onList (H a) fun xs=>onList (H b) fun ys=>xs.length + ys.length <= 100000 /\ ∀ D,H D = none -> Q (.ref D) (upd H D (.list (xs ++ ys))))
noncomputable def wSub:W2:=fun x y Q zz H=>onInt x fun a=>onInt y fun b=>Q (.int (a - b)) H
noncomputable def wMul:W2:=fun x y Q zz H=>onV x False (fun zz=>False) (fun a=>onInt y fun b=>(small a ∨ small b) /\ Q (.int (a * b)) H) (fun zz=>False)
  (fun a=>onInt y fun b=>onList (H a) fun xs=>on1 xs fun v=>(0 <= b /\ b <= 200) /\ ∀ D,H D = none -> Q (.ref D) (upd H D (.list (List.replicate b.toNat v))))
noncomputable def wFdiv:W2:=fun x y Q zz H=>onInt x fun a=>onInt y fun b=>(0 < b /\ small b) /\ Q (.int (a.fdiv b)) H
noncomputable def wMod:W2:=fun x y Q zz H=>onInt x fun a=>onInt y fun b=>0 < b /\ Q (.int (a.fmod b)) H
noncomputable def wPow:W2:=fun x y Q zz H=>onInt x fun a=>onInt y fun b=>(small a /\ 0 <= b /\ b <= 1000) /\ Q (.int (a ^ b.toNat)) H
noncomputable def wShl:W2:=fun x y Q zz H=>onInt x fun a=>onInt y fun b=>(small a /\ 0 <= b /\ b <= 1000) /\ Q (.int (a * 2 ^ b.toNat)) H
noncomputable def wShr:W2:=fun x y Q zz H=>onInt x fun a=>onInt y fun b=>0 <= b /\ Q (.int (a.fdiv (2 ^ b.toNat))) H
noncomputable def wOr:W2:=fun x y Q zz H=>onInt x fun a=>onInt y fun b=>Q (.int (Builtin.bitOr a b)) H
noncomputable def wAnd:W2:=fun x y Q zz H=>onInt x fun a=>onInt y fun b=>Q (.int (Builtin.bitAnd a b)) H
noncomputable def wCmp (f:Int -> Int -> Prop):W2:=fun x y Q zz H=>onInt x fun a=>onInt y fun b=>(f a b -> Q (.bool true) H) /\ (¬ f a b -> Q (.bool false) H)
section
variable {G:Gl} {c:Cx} {n:Nat}
theorem St.tick {o:Org} {H:MH} {ls:List V} {s:Shared} (x:St G c o H ls s) (t:Nat):St G c o H ls { s with toks:=t }:=x.keeps (fun zz zz e=>e) rfl rfl
theorem S2.ints {f:Value -> Value -> Sem Value} {w:Int -> Int -> WV} (k:∀ (A:Around) (o:Org) (s:Shared) (H:MH) (ls:List V) (Q:QV) (X:XP) (a b:Int) (t u:Tok),AOk n c A -> St G c o H ls s -> w a b Q X H -> wpAny (model G.prog G.w) A (f (.int a t) (.int b u)) (RV G c o ls Q) (PX G c o ls X) s) :
    S2 G c n f (fun x y Q X H=>onInt x fun a=>onInt y fun b=>w a b Q X H):=fun A o s H ls Q X x y hA hs h=>onInt_k h fun a t e1 h=>onInt_k h fun b u e2 h=>e1 ▸ e2 ▸ k A o s H ls Q X a b t u hA hs h
theorem o_sub:S2 G c n (binaryOp .Sub) wSub:=.ints fun A o s H ls Q X a b t u hA hs h=>P.sub_int (xI1_1 H (hs.tick _) h)
theorem o_isub:S2 G c n (inplaceOp .Sub) wSub:=.ints fun A o s H ls Q X a b t u hA hs h=>P.isub_int (xI1_1 H (hs.tick _) h)
theorem o_fdiv:S2 G c n (binaryOp .FloorDiv) wFdiv:=.ints fun A o s H ls Q X a b t u hA hs h=>floordiv_int (by omega) (xI1_1 H (hs.tick _) h.2) (.inl (small_noPylong h.1.2))
theorem o_mod:S2 G c n (binaryOp .Mod) wMod:=.ints fun A o s H ls Q X a b t u hA hs h=>mod_int (by omega) (xI1_1 H (hs.tick _) h.2)
theorem o_pow:S2 G c n (binaryOp .Pow) wPow:=.ints fun A o s H ls Q X a b t u hA hs h=>pow_int_small h.1.2.1 (by omega) (small_abs h.1.1) (xI1_1 H (hs.tick _) h.2)
theorem o_shl:S2 G c n (binaryOp .LShift) wShl:=.ints fun A o s H ls Q X a b t u hA hs h=>lshift_int_small h.1.2.1 (by omega) (small_abs h.1.1) (xI1_1 H (hs.tick _) h.2)
theorem o_shr:S2 G c n (binaryOp .RShift) wShr:=.ints fun A o s H ls Q X a b t u hA hs h=>rshift_int h.1 (xI1_1 H (hs.tick _) h.2)
theorem o_or:S2 G c n (binaryOp .BitOr) wOr:=.ints fun A o s H ls Q X a b t u hA hs h=>or_int (xI1_1 H (hs.tick _) h)
theorem o_ior:S2 G c n (inplaceOp .BitOr) wOr:=.ints fun A o s H ls Q X a b t u hA hs h=>ior_int (xI1_1 H (hs.tick _) h)
theorem o_and:S2 G c n (binaryOp .BitAnd) wAnd:=.ints fun A o s H ls Q X a b t u hA hs h=>and_int (xI1_1 H (hs.tick _) h)
theorem by_dec {p:Prop} [Decidable p] {Q:QV} {H:MH} (h:(p -> Q (.bool true) H) /\ (¬ p -> Q (.bool false) H)):Q (.bool (decide p)) H:=by
  by_cases q:p
  · rw [decide_eq_true q];exact h.1 q
  · rw [decide_eq_false q];exact h.2 q
theorem o_lt:S2 G c n (compareOp .Lt) (wCmp fun a b=>a < b):=.ints fun A o s H ls Q X a b t u hA hs h=>P.lt_int (xI1_1 H hs (by_dec h))
theorem o_le:S2 G c n (compareOp .LtE) (wCmp fun a b=>a <= b):=.ints fun A o s H ls Q X a b t u hA hs h=>P.le_int (xI1_1 H hs (by_dec h))
theorem o_gt:S2 G c n (compareOp .Gt) (wCmp fun a b=>b < a):=.ints fun A o s H ls Q X a b t u hA hs h=>P.gt_int (xI1_1 H hs (by_dec h))
theorem o_ge:S2 G c n (compareOp .GtE) (wCmp fun a b=>b <= a):=.ints fun A o s H ls Q X a b t u hA hs h=>P.ge_int (xI1_1 H hs (by_dec h))
noncomputable def wNeg:V -> WV:=fun x Q zz H=>onInt x fun a=>Q (.int (-a)) H
theorem o_neg:S1 G c n (unaryOp .USub) wNeg:=fun A o s H ls Q X x hA hs h=>onInt_k h fun a t e h=>e ▸ P.neg_int (xI1_1 H (hs.tick _) h)
end
section
variable {G:Gl} {c:Cx} {n:Nat}
theorem St.pushed {o:Org} {H:MH} {ls:List V} {s:Shared} (x:St G c o H ls s) {ob:Obj} {m:MO} (hm:ORel m ob) (hf:ob.isFreed = false) (t:Nat):H s.heap.objs.size = none /\ St G c o (upd H s.heap.objs.size m) ls { s with heap:=s.heap.push ob,toks:=t } :=
  ⟨(x.fresh (size_none _)).1,x.alloc (s':={ s with heap:=s.heap.push ob,toks:=t }) (fun b y e=>Heap.get?_push_of_some _ e) (size_none _) (Heap.get?_push_size _ hf) hm rfl rfl⟩
theorem St.made1 (CO:CxOk G c) {o:Org} {H:MH} {ls:List V} {s:Shared} (hs:St G c o H ls s) {D:Addr} {ob:Obj} {mo:MO} {h':Heap} {tk:Nat} {m:Str -> Option Value} (hn:s.heap.Ns c.env.locals m) (F:Fr {} c.env.locals h' m) (N:News {} c.env.locals h' ((D,ob) :: rest s.heap [c.env.locals]))
    (hlt:∀ p ∈ rest s.heap [c.env.locals],p.1 < D) (hm:ORel mo ob):H D = none /\ St G c o (upd H D mo) ls { s with heap:=h',toks:=tk }:=by
  have hD:=N (D,ob) (.head _)
  have none_at:s.heap.get? D = none:=by
    cases q:s.heap.get? D with
    | none => rfl
    | some y => exact absurd (hlt (D,y) (mem_rest.mpr ⟨q,by simpa using hD.2.1⟩)) (Nat.lt_irrefl _)
  refine ⟨(hs.fresh none_at).1,hs.upd1 (s':={ s with heap:=h',toks:=tk }) CO (.inr none_at) (fun b y e hb hb2=>(N (b,y) (.tail _ (mem_rest.mpr ⟨e,by simpa using hb2⟩))).1) (fun m2 hm2=>?_) hD.1 hm rfl rfl⟩
  have:m2 = m:=by
    refine xA3_3 hm2 ?_;(try clear hm2);intro o1 es1 ep1 a1 a2 a3 a4
    refine xA3_3 hn ?_;(try clear hn);intro o2 es2 ep2 b1 b2 b3 b4
    rw [a1] at b1;cases b1;rw [a2] at b2;cases b2
    funext x;rw [<- a4,<- b4]
  rw [this];exact F.ns
theorem map_len {items:Array Value} {xs:List V} (h:items.toList.map er = xs):items.size = xs.length:=by rw [<- h,List.length_map,Array.length_toList]
theorem o_add:S2 G c n (binaryOp .Add) wAdd:=fun A o s H ls Q X x y hA hs h=>by
  refine onA_k h (fun a t e1 h=>onInt_k h fun b u e2 h=>?_) (fun a t e1 h=>onA_k h (fun zz zz zz h=>h.elim) (fun b u e2 h=>?_) (fun zz zz zz h=>h.elim) fun zz zz h=>h.elim) (fun b1 t e1 h=>onA_k h (fun zz zz zz h=>h.elim) (fun zz zz zz h=>h.elim) (fun b2 u e2 h=>?_) fun zz zz h=>h.elim)
    fun a e1 h=>onRef_k h fun b e2 h=>onList_k h fun xs h1 h=>onList_k h fun ys h2 h=>?_
  all_goals rw [e1,e2]
  · exact P.add_int (xI1_1 H (hs.tick _) h)
  · exact SBL.add (fun t' k zz=>(xI1_1 H (hs.tick _) h.2)) (Nat.le_trans h.1 (by decide))
  · refine KBy.add_bytes ?_ fun t' k=>(xI1_1 H (hs.tick _) ?_)
    · have h1:=h.1
      rw [List.length_map,List.length_map,Array.length_toList,Array.length_toList] at h1
      exact Nat.le_trans h1 (by decide)
    · show Q (.bytes ((b1 ++ b2).toList.map UInt8.toNat)) H
      rw [Array.toList_append,List.map_append];exact h.2
  · refine xA2_1 (live_listOf hs h1) ?_;intro i1 k1 g1 g2
    refine xA2_1 (live_listOf hs h2) ?_;intro i2 k2 g3 g4
    refine P.add_list g1 g3 ?_ (by rw [map_len g2,map_len g4];exact Nat.le_trans h.1 (by decide))
    refine xA0_1 (hs.pushed (ob:={ cls:=.type "list",data:=.seq (i1 ++ i2) }) (m:=.list (xs ++ ys)) (xI2_1 _ _ rfl (by rw [Array.toList_append,List.map_append,g2,g4])) rfl s.toks) ?_;intro p1 p2
    exact (xI1_1 _ p2 (h.2 _ p1))
noncomputable def wAddI:W2:=fun x y Q zz H=>onInt x fun a=>onInt y fun b=>Q (.int (a + b)) H
theorem o_iadd:S2 G c n (inplaceOp .Add) wAddI:=.ints fun A o s H ls Q X a b t u hA hs h=>P.iadd_int (xI1_1 H (hs.tick _) h)
theorem o_mul (CO:CxOk G c):S2 G c n (binaryOp .Mult) wMul:=fun A o s H ls Q X x y hA hs h=>by
  refine onV_k h (fun zz h=>h.elim) (fun zz zz h=>h.elim) (fun a t e1 h=>onInt_k h fun b u e2 h=>?_) (fun zz zz zz h=>h.elim) fun a e1 h=>onInt_k h fun b u e2 h=>onList_k h fun xs hH h=>?_
  all_goals rw [e1,e2]
  · refine P.mul_int (xI1_1 H (hs.tick _) h.2) ?_
    rcases h.1 with h | h
    · exact IntMulOk.of_left (small_bits h)
    · exact IntMulOk.of_right (small_bits h)
  · refine xA1_1 (?_:∃ v,xs = [v] /\ ((0 <= b /\ b <= 200) /\ ∀ D,H D = none -> Q (.ref D) (upd H D (.list (List.replicate b.toNat v))))) ?_
    · match xs,h with
      | [v],h => exact (xI1_1 v rfl h)
    intro v hxs h
    subst hxs
    refine xA1_1 hs.frame.loc ?_;intro m hn _
    refine xA1_1 (live_list hs hH) ?_;intro items hl he
    refine xA1_1 (?_:∃ w,items.toList = [w] /\ er w = v) ?_
    · refine xA1_1 (map1 he) ?_;intro w hw1 hw2
      exact (xI1_1 w hw1 hw2)
    intro w hw1 hw2
    have hw3:items = [w].toArray:=by rw [<- hw1]
    rw [hw3] at hl
    refine KMa.mul (St.frE CO hn) (news_rest s.heap [c.env.locals] (.head _)) hl (by lia) (by omega) (by simp only [List.length_singleton,Nat.one_mul];lia) rfl fun D h' F N hlt=>?_
    obtain ⟨p1,p2⟩:=hs.made1 CO (tk:=s.toks) hn F N hlt (mo:=.list (List.replicate b.toNat v)) (xI2_1 _ 0 rfl (by
      rw [<- hw2]
      generalize b.toNat = k
      induction k with
      | zero => rfl
      | succ k _ => simp [List.replicate_succ]))
    exact (xI1_1 _ p2 (h.2 D p1))
end
end Mine
namespace Mine
open PySem PySem.W PyProof.Rows PySem.SeqAt
noncomputable def vEq (H:MH) (x y:V):Prop:=onV x False (fun zz=>False) (fun a=>onInt y fun b=>a = b) (fun zz=>False) fun t=>onRef y fun u=>∃ xs,H t = some (.tup xs) /\ H u = some (.tup xs) /\ ∀ x ∈ xs,∃ i,x = .int i
noncomputable def seqEq (H:MH) (xs ys:List V):Prop:=xs.length = ys.length /\ ∀ (i:Nat) x y,xs[i]? = some x -> ys[i]? = some y -> vEq H x y
noncomputable def wEq:W2:=fun x y Q zz H=>onV x (y = .none /\ Q (.bool true) H) (fun zz=>False) (fun a=>onInt y fun b=>(a = b -> Q (.bool true) H) /\ (¬ a = b -> Q (.bool false) H)) (fun a=>y = .bytes a /\ Q (.bool true) H)
  fun a=>onRef y fun b=>onList (H a) fun xs=>onList (H b) fun ys=>seqEq H xs ys /\ Q (.bool true) H
noncomputable def wNe:W2:=fun x y Q zz H=>onV x False (fun a=>onV y False (fun b=>Q (.bool (a != b)) H) (fun zz=>False) (fun zz=>False) fun zz=>False) (fun a=>onInt y fun b=>(a ≠ b -> Q (.bool true) H) /\ (¬ a ≠ b -> Q (.bool false) H)) (fun zz=>False)
  fun a=>onRef y fun b=>onList (H a) fun xs=>onList (H b) fun ys=>seqEq H xs ys /\ Q (.bool false) H
section
variable {G:Gl} {c:Cx} {n:Nat}
theorem eq_ints {A:Around} {s:Shared} {a b:Int} {t u:Tok} (h:a = b):EqAt A s (.int a t) (.int b u) true:=by
  subst h
  have:=EqAt.int_int (A:=A) (s:=s) a t a u
  rwa [beq_self_eq_true] at this
theorem eq_val {o:Org} {H:MH} {ls:List V} {s:Shared} (hs:St G c o H ls s) {A:Around} (hu:A.units < cLine) {x y:Value} (h:vEq H (er x) (er y)):EqAt A s x y true:=by
  refine onV_k h (fun zz h=>h.elim) (fun zz zz h=>h.elim) (fun a t e1 h=>onInt_k h fun b u e2 h=>?_) (fun zz zz zz h=>h.elim) fun t e1 h=>onRef_k h fun u e2 h=>?_
  all_goals rw [e1,e2]
  · exact eq_ints h
  · refine xA1_2 h ?_;(try clear h);intro xs h1 h2 h3
    by_cases q:t = u
    · rw [q];exact EqAt.same _
    · refine xA1_1 (live_tup hs h1) ?_;intro i1 hT1 g1;refine xA1_2 hT1 ?_;(try clear hT1);intro o1 a1 b1 hT2;refine xA1_0 hT2 ?_;(try clear hT2);intro k1 c1
      refine xA1_1 (live_tup hs h2) ?_;intro i2 hT1 g2;refine xA1_2 hT1 ?_;(try clear hT1);intro o2 a2 b2 hT2;refine xA1_0 hT2 ?_;(try clear hT2);intro k2 c2
      have hsz:i1.size = i2.size:=by rw [map_len g1,map_len g2]
      have:=RcAt.tuples (A:=A) (e:=fun zz=>true) (xI1_2 o1 a1 b1 ⟨ k1,c1⟩) (xI1_2 o2 a2 b2 ⟨ k2,c2⟩) hu (fun j j1 j2=>by
        have e1:=getElem_er g1 j
        have e2:=getElem_er g2 j
        rw [Array.getElem?_eq_getElem j1] at e1
        rw [Array.getElem?_eq_getElem j2] at e2
        refine xA1_0 (h3 (er i1[j]) (by rw [<- g1];exact List.mem_map_of_mem (f:=er) (by simp))) ?_;intro i hi
        refine xA1_0 (er_int hi) ?_;intro t ht
        have e3:er i2[j] = .int i:=by
          have:some (er i2[j]) = some (er i1[j]):=e2.trans e1.symm
          rw [Option.some.inj this,hi]
        refine xA1_0 (er_int e3) ?_;intro u hu
        rw [ht,hu];exact eq_ints rfl)
      have e:((List.range (min i1.size i2.size)).all (fun zz=>true) && i1.size == i2.size) = true:=by rw [hsz];simp
      rw [e] at this
      exact EqAt.of_refs q this
theorem seq_eq {o:Org} {H:MH} {ls:List V} {s:Shared} (hs:St G c o H ls s) {A:Around} (hu:A.units < cLine) {i1 i2:Array Value} {xs ys:List V} (g1:i1.toList.map er = xs) (g2:i2.toList.map er = ys) (h:seqEq H xs ys) :
    i1.size = i2.size /\ ∀ j (h1:j < i1.size) (h2:j < i2.size),EqAt A s i1[j] i2[j] true:=by
  refine ⟨by rw [map_len g1,map_len g2];exact h.1,fun j j1 j2=>eq_val hs hu (h.2 j _ _ ?_ ?_)⟩
  · rw [<- getElem_er g1 j,Array.getElem?_eq_getElem j1];rfl
  · rw [<- getElem_er g2 j,Array.getElem?_eq_getElem j2];rfl
theorem AOk.units1 {A:Around} (h:AOk n c A):A.units < cLine /\ A.in1.units < cLine:=by
  have:=h.2.2.2
  constructor
  · show A.units < 9900;exact oA186 this
  · show A.units + 1 < 9900;exact oA185 this
theorem o_eq:S2 G c n (compareOp .Eq) wEq:=fun A o s H ls Q X x y hA hs h=>by
  refine onV_k h (fun e1 h=>?_) (fun zz zz h=>h.elim) (fun a t e1 h=>onInt_k h fun b u e2 h=>?_) (fun b1 t e1 h=>?_) fun a e1 h=>onRef_k h fun b e2 h=>onList_k h fun xs h1 h=>onList_k h fun ys h2 h=>?_
  · rw [e1,er_none h.1]
    exact EqNone.eq_none_none (xI1_1 H hs h.2)
  · rw [e1,e2]
    have e:(a == b) = decide (a = b):=by by_cases q:a = b <;> simp [q]
    exact P.eq_int (xI1_1 H hs (e ▸ by_dec h))
  · refine xA2_1 (er_bytes h.1) ?_;intro b2 u e2 f2
    rw [e1,e2]
    have h2:=(List.map_inj_right (fun x y e=>UInt8.toNat_inj.mp e)).mp f2
    exact eq_bytes (by rw [h2,beq_self_eq_true];exact (xI1_1 H hs h.2))
  · rw [e1,e2]
    refine xA1_1 (live_list hs h1) ?_;intro i1 l1 g1
    refine xA1_1 (live_list hs h2) ?_;intro i2 l2 g2
    refine xA0_1 (seq_eq hs hA.units1.2 g1 g2 h.1) ?_;intro k1 k2
    refine eq_listAt (e:=fun zz=>true) l1 l2 k1 hA.units1.1 k2 ?_
    rw [show (List.range i1.size).all (fun zz=>true) = true by simp]
    exact (xI1_1 H hs h.2)
theorem o_ne:S2 G c n (compareOp .NotEq) wNe:=fun A o s H ls Q X x y hA hs h=>by
  refine onV_k h (fun zz h=>h.elim) (fun a e1 h=>onV_k h (fun zz h=>h.elim) (fun b e2 h=>?_) (fun zz zz zz h=>h.elim) (fun zz zz zz h=>h.elim) fun zz zz h=>h.elim) (fun a t e1 h=>onInt_k h fun b u e2 h=>?_) (fun zz zz zz h=>h.elim) fun a e1 h=>onRef_k h fun b e2 h=>onList_k h fun xs h1 h=>onList_k h fun ys h2 h=>?_
  all_goals rw [e1,e2]
  · exact ne_bool (xI1_1 H hs h)
  · have e:(a != b) = decide (a ≠ b):=by by_cases q:a = b <;> simp [q]
    exact P.ne_int (xI1_1 H hs (e ▸ by_dec h))
  · refine xA1_1 (live_list hs h1) ?_;intro i1 l1 g1
    refine xA1_1 (live_list hs h2) ?_;intro i2 l2 g2
    refine xA0_1 (seq_eq hs hA.units1.2 g1 g2 h.1) ?_;intro k1 k2
    refine RcNeAt.lists (A:=A) (e:=fun zz=>true) l1 l2 k1 hA.units1.1 k2 G.prog G.w _ _ ?_
    rw [show (List.range i1.size).all (fun zz=>true) = true by simp]
    exact (xI1_1 H hs h.2)
noncomputable def wIs:W2:=fun x y Q zz H=>onV x (y = .none /\ Q (.bool true) H) (fun zz=>False) (fun zz=>y = .none /\ Q (.bool false) H) (fun zz=>False) fun zz=>False
theorem o_is:S2 G c n (compareOp .Is) wIs:=fun A o s H ls Q X x y hA hs h=>by
  refine onV_k h (fun e1 h=>?_) (fun zz zz h=>h.elim) (fun a t e1 h=>?_) (fun zz zz zz h=>h.elim) fun zz zz h=>h.elim
  all_goals rw [e1,er_none h.1];exact wpAny_is_plain rfl (xI1_1 H hs h.2)
end
section
variable {G:Gl} {c:Cx} {n:Nat}
theorem ns_uniq {h:Heap} {L:Addr} {m m2:Str -> Option Value} (hn:h.Ns L m) (hm2:h.Ns L m2):m2 = m:=by
  refine xA3_3 hm2 ?_;(try clear hm2);intro o1 es1 ep1 a1 a2 a3 a4
  refine xA3_3 hn ?_;(try clear hn);intro o2 es2 ep2 b1 b2 b3 b4
  rw [a1] at b1;cases b1;rw [a2] at b2;cases b2
  funext x;rw [<- a4,<- b4]
theorem St.sameK (CO:CxOk G c) {o:Org} {H:MH} {ls:List V} {s:Shared} (hs:St G c o H ls s) {h':Heap} {tk:Nat} {m:Str -> Option Value} (hn:s.heap.Ns c.env.locals m) (F:Fr {} c.env.locals h' m) (N:News {} c.env.locals h' (rest s.heap [c.env.locals])):St G c o H ls { s with heap:=h',toks:=tk }:=by
  have hk:∀ b y,s.heap.get? b = some y -> b ≠ c.env.locals -> h'.get? b = some y:=fun b y e hb=>(N (b,y) (mem_rest.mpr ⟨e,by simpa using hb⟩)).1
  have nL:∀ b m,H b = some m -> b ≠ c.env.locals:=fun b m e q=>(hs.own b m e).2.2.1 (q ▸ CO.loc)
  refine hs.gen (s':={ s with heap:=h',toks:=tk }) CO (fun b y e zz hb=>hk b y e hb) (fun m2 hm2=>by rw [ns_uniq hn hm2];exact F.ns) (fun a mm e=>?_) (fun b hb=>?_) rfl rfl
  · refine xA1_1 (hs.live e) ?_;intro ob h1 h2
    exact ⟨.inl (by rw [e];exact fun q=>nomatch q),(xI1_1 ob (hk a ob h1 (nL a mm e)) h2)⟩
  · refine xA1_0 (Option.ne_none_iff_exists'.mp hb) ?_;intro mm e
    refine xA1_1 (hs.live e) ?_;intro ob h1 h2
    exact ⟨ob,hk b ob h1 (nL b mm e)⟩
theorem ints_are:∀ {vs:List Value} {ns:List Int},vs.map er = ns.map V.int -> IntsAre vs ns
  | [],[],_ => .nil
  | v :: vs,k :: ns,h => by
    refine xA0_1 (List.cons.inj h) ?_;intro h1 h2
    refine xA1_0 (er_int h1) ?_;intro t hT1;subst hT1
    exact .cons _ _ (ints_are h2)
  | [],_ :: _,h => nomatch h
  | _ :: _,[],h => nomatch h
noncomputable def listOfInts (v:V) (H:MH) (Q:List Int -> Prop):Prop:=onRef v fun a=>∃ ns,H a = some (.list (ns.map V.int)) /\ Q ns
theorem listOfInts_at {v:Value} {H:MH} {Q:List Int -> Prop} {o:Org} {ls:List V} {s:Shared} (hs:St G c o H ls s) (h:listOfInts (er v) H Q):∃ a vs ns,v = .ref a /\ s.heap.IsList a vs.toArray /\ IntsAre vs ns /\ vs.length = ns.length /\ Q ns:=by
  refine onRef_k h fun a e h=>?_
  refine xA1_1 h ?_;(try clear h);intro ns hH hq
  refine xA1_1 (live_list hs hH) ?_;intro items hl he
  exact (xI3_4 a items.toList ns e (by simpa using hl) (ints_are he) (by have:=congrArg List.length he;simpa using this) hq)
noncomputable def lenW (vals:List V):WV:=fun Q zz H=>on1 vals fun v=>onV v False (fun zz=>False) (fun zz=>False) (fun b=>b.length <= 100000 /\ Q (.int b.length) H) fun a=>onList (H a) fun xs=>xs.length <= 100000 /\ Q (.int xs.length) H
theorem len_ok:CallOk G c n (.builtin "len") lenW:=fun A o s H ls Q X args hA hs h=>by
  refine on1_k h fun v hv h=>onV_k h (fun zz h=>h.elim) (fun zz zz h=>h.elim) (fun zz zz zz h=>h.elim) (fun b1 t e h=>?_) fun a e h=>onList_k h fun xs hH h=>?_
  all_goals rw [hv,e]
  · rw [List.length_map,Array.length_toList] at h
    exact len_bytes (by have:=h.1;lia) (xI1_1 H (hs.tick _) h.2)
  · refine xA1_1 (live_list hs hH) ?_;intro items hl he
    refine PySem.Calls.call_len_list hl (by rw [map_len he];have:=h.1;omega) (xI1_1 H (hs.tick _) ?_)
    show Q (.int items.size) H
    rw [map_len he];exact h.2
noncomputable def isinstW (vals:List V):WV:=fun Q zz H=>on2 vals fun v u=>onInt v fun zz=>onTy u fun s=>br (s == "int") (Q (.bool true) H) (s = "bool" /\ Q (.bool false) H)
theorem isinst_ok:CallOk G c n (.builtin "isinstance") isinstW:=fun A o s H ls Q X args hA hs h=>by
  refine on2_k h fun v u hv h=>onInt_k h fun a t e1 h=>onTy_k h fun b e2 h=>?_
  rw [hv,e1,e2]
  by_cases q:b = "int"
  · subst q
    exact IsiPair.int_int (xI1_1 H hs h)
  · rw [beq_false_of_ne q] at h
    rw [h.1]
    exact IsiPair.int_bool (xI1_1 H (hs.tick _) h.2)
noncomputable def absW (vals:List V):WV:=fun Q zz H=>on1 vals fun v=>onInt v fun a=>Q (.int a.natAbs) H
theorem abs_ok:CallOk G c n (.builtin "abs") absW:=fun A o s H ls Q X args hA hs h=>by
  refine on1_k h fun v hv h=>onInt_k h fun a t e h=>?_
  rw [hv,e]
  refine call_abs_int fun u tk=>(xI1_1 H (hs.tick _) ?_)
  show Q (.int (if a < 0 then -a else a)) H
  have:(if a < 0 then -a else a) = (a.natAbs:Int):=by split <;> lia
  rw [this];exact h
noncomputable def intW (vals:List V):WV:=fun Q zz H=>on1 vals fun v=>onV v False (fun b=>Q (.int (if b then 1 else 0)) H) (fun zz=>False) (fun zz=>False) fun zz=>False
theorem int_ok:CallOk G c n (.type "int") intW:=fun A o s H ls Q X args hA hs h=>by
  refine on1_k h fun v hv h=>onV_k h (fun zz h=>h.elim) (fun b e h=>?_) (fun zz zz zz h=>h.elim) (fun zz zz zz h=>h.elim) fun zz zz h=>h.elim
  rw [hv,e]
  exact call_int_bool (xI1_1 H (hs.tick _) h)
noncomputable def listW (vals:List V):WV:=fun Q zz H=>on1 vals fun v=>onRef v fun a=>onList (H a) fun xs=>xs.length <= 100000 /\ ∀ D,H D = none -> Q (.ref D) (upd H D (.list xs))
theorem list_ok:CallOk G c n (.type "list") listW:=fun A o s H ls Q X args hA hs h=>by
  refine on1_k h fun v hv h=>onRef_k h fun a e h=>onList_k h fun xs hH h=>?_
  rw [hv,e]
  refine xA2_1 (live_listOf hs hH) ?_;intro items k g1 g2
  refine call_list_seq a (.inl rfl) g1 rfl rfl (fun h' c' hk hD=>?_) (by rw [map_len g2];exact Nat.le_trans h.1 (by decide))
  exact (xI1_1 _ (hs.alloc (m:=.list xs) (s':={ s with heap:=h' }) hk (size_none _) hD (xI2_1 items c' rfl g2) rfl rfl) (h.2 _ (hs.fresh (size_none _)).1))
noncomputable def maxW (vals:List V):WV:=fun Q zz H=>on12 vals (fun v=>listOfInts v H fun ns=>0 < ns.length /\ ∀ M,M ∈ ns -> (∀ a ∈ ns,a <= M) -> Q (.int M) H) fun v u=>onInt v fun a=>onInt u fun b=>Q (.int (max a b)) H
theorem max_ok (CO:CxOk G c):CallOk G c n (.builtin "max") maxW:=fun A o s H ls Q X args hA hs h=>by
  refine xA1_1 hs.frame.loc ?_;intro m hn _
  refine on12_k h (fun v hv h=>?_) fun v u hv h=>onInt_k h fun a t e1 h=>onInt_k h fun b t2 e2 h=>?_
  · refine xA3_4 (listOfInts_at hs h) ?_;intro a vs ns e hl hi hlen hq
    rw [hv,e]
    exact max_list_N hA.2.1 (St.frE CO hn) (news_rest s.heap [c.env.locals] (.head _)) hl hi hq.1 fun h' M t tk F N hM ha=>(xI1_1 H (hs.sameK CO hn F N) (hq.2 M hM ha))
  · rw [hv,e1,e2]
    refine max_two_N hA.2.1 (St.frE CO hn) (news_rest s.heap [c.env.locals] (.head _)) fun h' tk F N=>(xI1_1 H (hs.sameK CO hn F N) ?_)
    show Q (.int (if b > a then b else a)) H
    have:(if b > a then b else a) = max a b:=by rw [Int.max_def];split <;> split <;> lia
    rw [this];exact h
noncomputable def minW (vals:List V):WV:=fun Q zz H=>on12 vals (fun v=>listOfInts v H fun ns=>0 < ns.length /\ ∀ M,M ∈ ns -> (∀ a ∈ ns,M <= a) -> Q (.int M) H) fun v u=>onInt v fun a=>onInt u fun b=>Q (.int (min a b)) H
theorem min_ok (CO:CxOk G c):CallOk G c n (.builtin "min") minW:=fun A o s H ls Q X args hA hs h=>by
  refine xA1_1 hs.frame.loc ?_;intro m hn _
  refine on12_k h (fun v hv h=>?_) fun v u hv h=>onInt_k h fun a t e1 h=>onInt_k h fun b t2 e2 h=>?_
  · refine xA3_4 (listOfInts_at hs h) ?_;intro a vs ns e hl hi hlen hq
    rw [hv,e]
    exact min_list_N hA.2.1 (St.frE CO hn) (news_rest s.heap [c.env.locals] (.head _)) hl hi hq.1 fun h' M t tk F N hM ha=>(xI1_1 H (hs.sameK CO hn F N) (hq.2 M hM ha))
  · rw [hv,e1,e2]
    refine min_two_N hA.2.1 (St.frE CO hn) (news_rest s.heap [c.env.locals] (.head _)) fun h' tk F N=>(xI1_1 H (hs.sameK CO hn F N) ?_)
    show Q (.int (if b < a then b else a)) H
    have:(if b < a then b else a) = min a b:=by rw [Int.min_def];split <;> split <;> lia
    rw [this];exact h
noncomputable def sumW (vals:List V):WV:=fun Q zz H=>on1 vals fun v=>listOfInts v H fun ns=>Q (.int ns.sum) H
theorem sum_ok (CO:CxOk G c):CallOk G c n (.builtin "sum") sumW:=fun A o s H ls Q X args hA hs h=>by
  refine xA1_1 hs.frame.loc ?_;intro m hn _
  refine on1_k h fun v hv h=>?_
  refine xA3_4 (listOfInts_at hs h) ?_;intro a vs ns e hl hi hlen hq
  rw [hv,e]
  exact LSm.sum_ints (St.frE CO hn) (news_rest s.heap [c.env.locals] (.head _)) hA.2.1 hl hi fun h' tk t' F N=>(xI1_1 H (hs.sameK CO hn F N) hq)
noncomputable def strW (vals:List V):WV:=fun Q zz H=>on1 vals fun v=>onInt v fun a=>small a /\ ∀ z:Str,z.length <= 100 -> Q (.str z) H
end
noncomputable def GI (G:Gl) (c:Cx) (n:Nat) (w:W2):Prop :=
  ∀ A o s H ls Q X x y,AOk n c A -> St G c o H ls s -> w (er x) (er y) Q X H -> ∃ T id,s.TypeIs x T /\ typeLookup (.type T) "__getitem__" = pure (some (.builtin id)) /\ wpAny (model G.prog G.w) A (getItem x y) (RV G c o ls Q) (PX G c o ls X) s
noncomputable def wItem:W2:=fun x y Q zz H=>onV x False (fun zz=>False) (fun zz=>False)
  (fun b=>onInt y fun k=>b.length <= 100000 /\ ((0 <= k /\ ∃ v,b[k.toNat]? = some v /\ Q (.int v) H) ∨ (k = -1 /\ ∃ v,b.getLast? = some v /\ Q (.int v) H)))
  fun a=>onInt y fun k=>onLD (H a) (fun xs=>(0 <= k /\ k < 2 ^ 60) /\ ∃ v,xs[k.toNat]? = some v /\ Q v H) fun m zz=>∃ v,m k = some v /\ Q v H
section
variable {G:Gl} {c:Cx} {n:Nat}
theorem live_dict {o:Org} {H:MH} {ls:List V} {s:Shared} (x:St G c o H ls s) {a:Addr} {m:Int -> Option V} {k:Nat} (h:H a = some (.dict m k)):∃ f:Int -> Option Value,s.heap.IntMap a f /\ s.heap.DictLe a k /\ ∀ i,(f i).map er = m i:=by
  refine xA1_2 (x.live h) ?_;intro ob h1 h2 hT1;refine xA2_3 hT1 ?_;(try clear hT1);intro es n h3 h4 h5 h6
  exact (xI1_2 (fun i=>findBy Value.isInt es i) (xI3_4 ob es n h1 h2 h3 h4 (fun zz=>rfl)) (fun o2 es2 ep e1 e2=>by rw [h1] at e1;cases e1;rw [h3] at e2;cases e2;exact h5) h6)
theorem gi_ok:GI G c n wItem:=fun A o s H ls Q X x y hA hs h=>by
  refine onV_k h (fun zz h=>h.elim) (fun zz zz h=>h.elim) (fun zz zz zz h=>h.elim) (fun b1 t e1 h=>onInt_k h fun k u e2 h=>?_) fun a e1 h=>onInt_k h fun k t e2 h=>onLD_k h (fun xs hH h=>?_) fun m kk hH h=>?_
  all_goals rw [e1,e2]
  rotate_left
  · refine xA0_1 h ?_;(try clear h);intro hk hT1;refine xA1_1 hT1 ?_;(try clear hT1);intro v hv hq
    refine xA1_1 (live_list hs hH) ?_;intro items hl he
    refine xA1_1 (Option.map_eq_some_iff.mp ((getElem_er he k.toNat).trans hv)) ?_;intro u hu hue
    exact (xI2_2 ("list") _ hl.typeIs list_getitem_lookup (wpAny_getItem_list hl hk.1 (by lia) hu (xI1_1 H hs (hue ▸ hq))))
  · refine xA1_1 h ?_;(try clear h);intro v hv hq
    refine xA1_2 (live_dict hs hH) ?_;intro f hf _ hm
    refine xA1_1 (Option.map_eq_some_iff.mp ((hm k).trans hv)) ?_;intro u hu hue
    exact (xI2_2 ("dict") _ hf.typeIs slot_dict_getitem.lookup (wpAny_getItem_intMap hf hu (xI1_1 H (hs.tick _) (hue ▸ hq))))
  · clear e1 e2
    refine (xI2_2 ("bytes") _ (typeIs_bytes s _ t) FB.slot_bytes_getitem.lookup ?_)
    have hz0:=h.1
    rw [List.length_map,Array.length_toList] at hz0
    rcases h.2 with ⟨h0,v,hv,hq⟩ | ⟨rfl,v,hv,hq⟩
    · rw [List.getElem?_map] at hv
      refine xA1_1 (Option.map_eq_some_iff.mp hv) ?_;intro z hz hT1;subst hT1
      have hlt:k.toNat < b1.toList.length:=(List.getElem?_eq_some_iff.mp hz).1
      have e:b1.toList.getD k.toNat 0 = z:=by rw [List.getD_eq_getElem?_getD,hz];rfl
      have:=getItem_bytes (prog:=G.prog) (w:=G.w) (A:=A) (s:=s) (E:=PX G c o ls X) (Q:=RV G c o ls Q) (l:=b1.toList) (i:=k) (t:=t) (u:=u) (by rw [Array.length_toList];lia) h0 (by exact oA12 hlt) (xI1_1 H (hs.tick _) (by rw [e];exact hq))
      simpa using this
    · rw [List.getLast?_map] at hv
      refine xA1_1 (Option.map_eq_some_iff.mp hv) ?_;intro z hz hT1;subst hT1
      refine getItem_gives (typeIs_bytes s _ t) (by decide) FB.slot_bytes_getitem FB.entry_bytes_getitem (FB.args_bytes_getitem_2 _ _) (gives_bytes_getitem _ (-1) t u z (by decide) ?_) (xI1_1 H (hs.tick _) hq)
      have hne:b1.size ≠ 0:=fun q=>by
        have:b1.toList = []:=by
          have h1:b1.toList.length = 0:=by rw [Array.length_toList,q]
          exact List.length_eq_zero_iff.mp h1
        rw [this] at hz;cases hz
      have e1:seqIndex? (-1) b1.size = some (b1.size - 1):=by
        have h1:(0:Int) <= -1 + b1.size:=by lia
        have h2:(-1 + (b1.size:Int)) < b1.size:=by lia
        simp only [seqIndex?,show ((-1:Int) < 0) from by decide,if_true,h1,h2,and_self,Option.some.injEq,Bool.and_eq_true,decide_eq_true_eq]
        exact oA102 hne h1
      rw [e1,Option.bind_some]
      rw [List.getLast?_eq_getElem?,Array.length_toList] at hz
      simpa using hz
theorem r_item {value slice:Expr} {pos:Pos} {a b:WE} {w:W2} (hg:GI G c n w) (ha:SE G c n value a) (hb:SE G c n slice b) (hs:∀ o i,subscripted slice false o i = operate [o,i] (getItem o i):=by intro _ _;with_unfolding_all rfl)
    (ht:∀ o r,letTemporaryGo value o r = pure ():=by intro _ _;with_unfolding_all rfl):SE G c n (.Subscript value slice pos) (wBin w a b):=fun A o s H ls Q X hA hst h =>
  Subscript_ (ha.go hA hst h (fun x s1 H1 hs1 h1=>hb.go hA hs1 h1 (fun y s2 H2 hs2 h2=>by
    refine xA2_2 (hg A o s2 H2 ls Q X x y hA hs2 h2) ?_;intro T id hT hl hq
    exact subscriptTail_builtin hT hl hq (hs _ _) (ht _)) fun zz zz e=>e) fun zz zz e=>e)
noncomputable def listAt (v:V) (H:MH) (Q:List V -> Prop):Prop:=onRef v fun a=>onList (H a) fun xs=>xs.length <= 100000 /\ Q xs
theorem listAt_at {v:Value} {H:MH} {Q:List V -> Prop} {o:Org} {ls:List V} {s:Shared} (hs:St G c o H ls s) (h:listAt (er v) H Q):∃ a items xs,v = .ref a /\ s.heap.IsList a items /\ items.toList.map er = xs /\ items.size <= sizeLine /\ Q xs:=by
  refine onRef_k h fun a e h=>onList_k h fun xs hH h=>?_
  refine xA1_1 (live_list hs hH) ?_;intro items hl he
  exact (xI3_4 a items xs e hl he (by rw [map_len he];exact Nat.le_trans h.1 (by decide)) h.2)
noncomputable def newL (ys:List V):QV -> MH -> Prop:=fun Q H=>∀ D,H D = none -> Q (.ref D) (upd H D (.list ys))
noncomputable def natOf (v:V) (Q:Nat -> Prop):Prop:=onInt v fun k=>0 <= k /\ Q k.toNat
noncomputable def wFrom (a e:WE):WE:=fun ls Q X H=>a ls (fun v H1=>e ls (fun k H2=>natOf k fun j=>listAt v H2 fun xs=>newL (xs.drop j) Q H2) X H1) X H
noncomputable def wUpto (a e:WE):WE:=fun ls Q X H=>a ls (fun v H1=>e ls (fun k H2=>natOf k fun j=>listAt v H2 fun xs=>newL (xs.take j) Q H2) X H1) X H
noncomputable def wRev (a e:WE):WE:=fun ls Q X H=>a ls (fun v H1=>e ls (fun k H2=>k = .int (-1) /\ listAt v H2 fun xs=>newL xs.reverse Q H2) X H1) X H
theorem natOf_at {v:Value} {Q:Nat -> Prop} (h:natOf (er v) Q):∃ (k:Int) (t:Tok),v = .int k t /\ 0 <= k /\ Q k.toNat:=by
  exact onInt_k h fun k t e h=>(xI2_1 k t e h)
theorem slice_new {o:Org} {H:MH} {ls:List V} {s:Shared} {Q:QV} (hs:St G c o H ls s) {items:Array Value} {ys:List V} {sl:Obj} (he:items.toList.map er = ys) (h:newL ys Q H) :
    RV G c o ls Q (.ref (s.heap.objs.size + 1)) { s with heap:=(s.heap.push sl).push { cls:=.type "list",data:=.seq items } }:=by
  refine xA0_1 ((hs.push sl s.toks).pushed (ob:={ cls:=.type "list",data:=.seq items }) (m:=.list ys) (xI2_1 items 0 rfl he) rfl s.toks) ?_;intro p1 p2
  have e:(s.heap.push sl).objs.size = s.heap.objs.size + 1:=Heap.size_push ..
  dsimp only at p1 p2
  rw [e] at p1 p2
  exact (xI1_1 _ p2 (h _ p1))
theorem r_from {value lo:Expr} {p pos:Pos} {a b:WE} (ha:SE G c n value a) (hb:SE G c n lo b) (ht:∀ o r,letTemporaryGo value o r = pure ():=by intro _ _;rfl):SE G c n (.Subscript value (.Slice (some lo) none none p) pos) (wFrom a b):=fun A o s H ls Q X hA hst h =>
  wpAny_Subscript_list_slice (ha.go hA hst h (fun x s1 H1 hs1 h1=>by
    rw [evalPart_some]
    refine hb.go hA hs1 h1 (fun y s2 H2 hs2 h2=>?_) fun zz zz e=>e
    rw [evalPart_none]
    refine xA2_2 (natOf_at h2) ?_;intro k t hT1;subst hT1;intro h0 h2
    refine xA3_4 (listAt_at hs2 h2) ?_;intro l items xs hT1;subst hT1;intro hl he hsz h2
    refine wpAny_pure (xI4_5 l items (some k) none rfl hl hsz (.int _ _) (.none) ?_)
    refine slice_new hs2 ?_ h2
    have:=slicePick_from' items k.toNat
    rw [show ((k.toNat:Nat):Int) = k by exact oA21 h0] at this
    rw [this]
    show (items.toList.drop k.toNat).map er = _
    rw [List.map_drop,he]) fun zz zz e=>e) ht
theorem r_upto {value hi:Expr} {p pos:Pos} {a b:WE} (ha:SE G c n value a) (hb:SE G c n hi b) (ht:∀ o r,letTemporaryGo value o r = pure ():=by intro _ _;rfl):SE G c n (.Subscript value (.Slice none (some hi) none p) pos) (wUpto a b):=fun A o s H ls Q X hA hst h =>
  wpAny_Subscript_list_slice (ha.go hA hst h (fun x s1 H1 hs1 h1=>by
    rw [evalPart_none,evalPart_some]
    refine wpAny_pure (hb.go hA hs1 h1 (fun y s2 H2 hs2 h2=>?_) fun zz zz e=>e)
    refine xA2_2 (natOf_at h2) ?_;intro k t hT1;subst hT1;intro h0 h2
    refine xA3_4 (listAt_at hs2 h2) ?_;intro l items xs hT1;subst hT1;intro hl he hsz h2
    refine (xI4_5 l items none (some k) rfl hl hsz (.none) (.int _ _) ?_)
    refine slice_new hs2 ?_ h2
    have:=slicePick_upto' items k.toNat
    rw [show ((k.toNat:Nat):Int) = k by exact oA21 h0] at this
    rw [this]
    show (items.toList.take k.toNat).map er = _
    rw [List.map_take,he]) fun zz zz e=>e) ht
theorem r_rev {value st:Expr} {p pos:Pos} {a b:WE} (ha:SE G c n value a) (hb:SE G c n st b) (ht:∀ o r,letTemporaryGo value o r = pure ():=by intro _ _;rfl):SE G c n (.Subscript value (.Slice none none (some st) p) pos) (wRev a b):=fun A o s H ls Q X hA hst h =>
  wpAny_Subscript_Slice_step (T := "list") list_getitem_lookup (ha.go hA hst h (fun x s1 H1 hs1 h1=>by
    refine wpAny_Slice ?_
    rw [evalPart_none,evalPart_some]
    refine wpAny_pure (wpAny_pure (hb.go hA hs1 h1 (fun y s2 H2 hs2 hqq=>(fun hk h2=>?_) hqq.1 hqq.2) fun zz zz e=>e))
    refine xA1_0 (er_int hk) ?_;intro t hT1;subst hT1
    refine xA3_4 (listAt_at hs2 h2) ?_;intro l items xs hT1;subst hT1;intro hl he hsz h2
    refine ⟨(hl.push _).typeIs,wpAny_getItem_list_slice (hl.push _) (Heap.IsSliceOf.new ..) .none .none (.int _ _) (by simp) ?_ hsz⟩
    rw [Heap.size_push]
    refine slice_new hs2 ?_ h2
    rw [krv_pick]
    show (items.toList.reverse).map er = _
    rw [List.map_reverse,he]) fun zz zz e=>e) ht
noncomputable def wUptoRo (l:Addr) (xs:List V) (a e:WE):WE:=fun ls Q X H=>a ls (fun v H1=>e ls (fun k H2=>v = .ref l /\ natOf k fun j=>newL (xs.take j) Q H2) X H1) X H
theorem r_uptoRo {l:Addr} {its:Array Value} {xs:List V} (hro:G.h₀.IsList l its) (hxs:its.toList.map er = xs) (hz:its.size <= sizeLine) {value hi:Expr} {p pos:Pos} {a b:WE} (ha:SE G c n value a) (hb:SE G c n hi b) (ht:∀ o r,letTemporaryGo value o r = pure ():=by intro _ _;rfl) :
    SE G c n (.Subscript value (.Slice none (some hi) none p) pos) (wUptoRo l xs a b):=fun A o s H ls Q X hA hst h =>
  wpAny_Subscript_list_slice (ha.go hA hst h (fun x s1 H1 hs1 h1=>by
    rw [evalPart_none,evalPart_some]
    refine wpAny_pure (hb.go hA hs1 h1 (fun y s2 H2 hs2 hqq=>(fun hv h2=>?_) hqq.1 hqq.2) fun zz zz e=>e)
    refine xA2_2 (natOf_at h2) ?_;intro k t hT1;subst hT1;intro h0 h2
    refine xA1_2 (id hro) ?_;intro ob e1 e2 hT1;refine xA1_0 hT1 ?_;(try clear hT1);intro k3 e3
    refine (xI4_5 l its none (some k) (er_ref hv) (xI1_2 ob (hs2.base _ _ e1) e2 ⟨ k3,e3⟩) hz (.none) (.int _ _) ?_)
    refine slice_new hs2 ?_ h2
    have:=slicePick_upto' its k.toNat
    rw [show ((k.toNat:Nat):Int) = k by exact oA21 h0] at this
    rw [this]
    show (its.toList.take k.toNat).map er = _
    rw [List.map_take,hxs]) fun zz zz e=>e) ht
noncomputable def lenRoW (l:Addr) (xs:List V) (vals:List V):WV:=fun Q X H=>(∃ k,vals = [.ref k] /\ k = l /\ Q (.int xs.length) H) ∨ (lenW vals Q X H)
theorem lenRo_ok {l:Addr} {its:Array Value} {xs:List V} (hro:G.h₀.IsList l its) (hxs:its.toList.map er = xs) (hz:its.size <= sizeLine):CallOk G c n (.builtin "len") (lenRoW l xs):=fun A o s H ls Q X args hA hs h=>by
  rcases h with ⟨k,hv,rfl,hq⟩ | h
  · refine xA1_1 (map1 hv) ?_;intro v hT1;subst hT1;intro e
    rw [er_ref e]
    refine xA1_2 (id hro) ?_;intro ob e1 e2 hT1;refine xA1_0 hT1 ?_;(try clear hT1);intro k3 e3
    have hz':its.size <= 2 ^ 24:=Nat.le_trans hz (by decide)
    refine PySem.Calls.call_len_list (xI1_2 ob (hs.base _ _ e1) e2 ⟨ k3,e3⟩) (by lia) (xI1_1 H (hs.tick _) ?_)
    show Q (.int its.size) H
    rw [map_len hxs];exact hq
  · exact len_ok A o s H ls Q X args hA hs h
end
noncomputable abbrev W3:=V -> V -> V -> (MH -> Prop) -> MH -> Prop
noncomputable def wSet:W3:=fun x y v Q H=>onRef x fun a=>onInt y fun k=>onLD (H a) (fun xs=>(0 <= k /\ k < xs.length /\ xs.length <= 100000) /\ Q (upd H a (.list (xs.set k.toNat v))))
  fun m j=>j <= 1000 /\ Q (upd H a (.dict (fun i=>if i = k then some v else m i) (j + 1)))
section
variable {G:Gl} {c:Cx} {n:Nat}
theorem setItem_ok (CO:CxOk G c) {A:Around} {o:Org} {s:Shared} {H:MH} {ls:List V} {Q:MH -> Prop} {E:Value -> Shared -> Prop} {x y v:Value} (hs:St G c o H ls s) (h:wSet (er x) (er y) (er v) Q H) :
    wpAny (model G.prog G.w) A (setItem x y v) (fun zz s'=>∃ H',St G c o H' ls s' /\ Q H') E s:=by
  refine onRef_k h fun a e1 h=>onInt_k h fun k t e2 h=>onLD_k h (fun xs hH h=>?_) fun m j hH h=>?_
  all_goals rw [e1,e2]
  · refine xA0_1 h ?_;(try clear h);intro hT1 hq;refine xA0_2 hT1 ?_;(try clear hT1);intro h0 h1 h2
    refine xA2_1 (live_listOf hs hH) ?_;intro items kk g1 g2
    have hsz:=map_len g2
    refine ki_setAt g1 h0 (by lia) (by rw [hsz];exact h1) ?_
    have e:=PySem.IsL.update (l:=a) (items:=items) (n:=kk) g1 (·.setIfInBounds k.toNat v)
    exact ⟨_,hs.update CO (s':={ s with heap:=s.heap.update a (Obj.mapSeq (·.setIfInBounds k.toNat v)) }) hH (Heap.SameBut.update ..) e (m:=.list (xs.set k.toNat (er v))) (xI2_1 _ _ rfl (by
      rw [Array.toList_setIfInBounds,List.map_set,g2])) rfl rfl,hq⟩
  · refine xA0_1 h ?_;(try clear h);intro hj hq
    refine xA1_2 (live_dict hs hH) ?_;intro f hf hd hm
    refine wpAny_setItem_intMap_le hf hd (Nat.le_trans hj (by decide)) fun h' hf' hd' hsb=>?_
    refine xA3_4 hf' ?_;(try clear hf');intro ob es ep g1 g2 g3 g4 g5
    refine (xI1_1 _ (hs.update CO (s':={ s with heap:=h',toks:=s.toks + 1 }) hH hsb g1 (m:=.dict (fun i=>if i = k then some (er v) else m i) (j + 1)) ⟨g2,(xI2_3 es ep g3 g4 (hd' _ _ _ g1 g3) (fun i=>?_))⟩ rfl rfl) hq)
    rw [g5]
    by_cases q:i = k
    · simp [q]
    · simp [q,hm i]
noncomputable def sSet (a i e:WE):WS:=fun ls Qn zz X H=>e ls (fun v H1=>a ls (fun x H2=>i ls (fun y H3=>wSet x y v (fun H4=>Qn ls H4) H3) X H2) X H1) X H
theorem s_set (CO:CxOk G c) {b i e:Expr} {px pos:Pos} {wa wi we:WE} (ha:SE G c n b wa) (hi:SE G c n i wi) (he:SE G c n e we) (hsw:∀ env,swapsWith e (some (.Subscript b i px)) pos.line env = pure false:=by intro _;rfl) :
    SS G c n (.Assign [.Subscript b i px] e pos) (sSet wa wi we):=fun A o s H ls Qn Qr X hA hs h =>
  wpAny_Assign_Subscript (he.go hA hs h (fun v s1 H1 hs1 h1=>ha.go hA hs1 h1 (fun x s2 H2 hs2 h2=>hi.go hA hs2 h2 (fun y s3 H3 hs3 h3 =>
    wpAny_mono (setItem_ok CO hs3 h3) (fun zz s4 hF1=>xA1_1 hF1 fun H4 hs4 h4=>(xI2_1 ls H4 hs4 h4)) fun zz zz e=>e) fun zz zz e=>⟨ls,e⟩) fun zz zz e=>⟨ls,e⟩) fun zz zz e=>⟨ls,e⟩) (hsw _)
noncomputable def sAugSet (f g:W2) (a i e:WE):WS:=fun ls Qn zz X H=>a ls (fun x H1=>i ls (fun y H2=>g x y (fun u H3=>e ls (fun v H4=>f u v (fun z H5=>wSet x y z (fun H6=>Qn ls H6) H5) X H4) X H3) X H2) X H1) X H
theorem s_augset (CO:CxOk G c) {op:Operator} {b i e:Expr} {px pos:Pos} {f g:W2} {wa wi we:WE} (hf:S2 G c n (inplaceOp op) f) (hg:GI G c n g) (ha:SE G c n b wa) (hi:SE G c n i wi) (he:SE G c n e we)
    (hst:∀ ov iv new,augStore i ov iv new = (do holding [new,ov,iv] (setItem ov iv new);release [new,ov,iv] [];pure .next):=by intro _ _ _;rfl) :
    SS G c n (.AugAssign (.Subscript b i px) op e pos) (sAugSet f g wa wi we):=fun A o s H ls Qn Qr X hA hs h =>
  wpAny_AugAssign_Subscript_any (ha.go hA hs h (fun x s1 H1 hs1 h1=>hi.go hA hs1 h1 (fun y s2 H2 hs2 h2=>by
    refine xA2_2 (hg A o s2 H2 ls _ X x y hA hs2 h2) ?_;intro _ _ _ _ hq
    exact wpAny_mono hq (fun u s3 hF1=>xA1_1 hF1 fun H3 hs3 h3=>he.go hA hs3 h3 (fun v s4 H4 hs4 h4=>hf.go hA hs4 h4 (fun z s5 H5 hs5 h5 =>
      wpAny_mono (setItem_ok CO hs5 h5) (fun zz s6 hF1=>xA1_1 hF1 fun H6 hs6 h6=>(xI2_1 ls H6 hs6 h6)) fun zz zz e=>e) fun zz zz e=>⟨ls,e⟩) fun zz zz e=>⟨ls,e⟩) fun zz zz e=>⟨ls,e⟩) fun zz zz e=>⟨ls,e⟩) fun zz zz e=>⟨ls,e⟩) hst
theorem notIn_intMap {prog:Program} {w:World} {A:Around} {E:Value -> Shared -> Prop} {s:Shared} {d:Addr} {f} {k:Int} {t:Tok} {Q:Value -> Shared -> Prop} (hm:s.heap.IntMap d f)
    (h:Q (.bool (!(f k).isSome)) { s with toks:=s.toks + 1 }):wpAny (model prog w) A (compareOp .NotIn (.int k t) (.ref d)) Q E s:=by
  show wpAny _ _ (do return .bool (!(<- contains (.ref d) (.int k t)))) Q E s
  refine wpAny_bind ?_
  unfold contains
  try with_reducible refine wpAny_holding ?_
  refine wpAny_bind (wpAny_specialOf hm.typeIs slot_dict_contains.lookup ?_)
  show wpAny _ _ (if (some (Value.builtin "dict.__contains__") == some Value.none) = true then _ else _) _ E s
  rw [if_neg (by rw [beq_builtin_none];exact Bool.false_ne_true)]
  refine wpAny_bind (wpAny_callSpecialUnlessNone?_slot (name:=Str.ofString "__contains__") hm.typeIs slot_dict_contains
    (wpAny_call_entry slot_dict_contains hm.typeIs entry_dict_contains ?_ (args_dict_contains _ _)))
  show wpAny _ _ (dictGet d (.int k t) >>= _) _ _ s
  refine wpAny_bind (wpAny_dictGet_int hm ?_)
  cases hf:f k with
  | some v =>
    rw [hf] at h
    show wpAny _ _ (ret (.bool true)) _ _ _
    exact wpAny_pure (xI1_1 _ rfl (wpAny_truthy_bool (wpAny_pure h)))
  | none =>
    rw [hf] at h
    show wpAny _ _ (Builtin.Dict.pendingKey? d (.int k t) >>= _) _ _ _
    exact wpAny_bind (wpAny_pendingKey_int (wpAny_pure (xI1_1 _ rfl (wpAny_truthy_bool (wpAny_pure h)))))
noncomputable def wNotIn:W2:=fun x y Q zz H=>onInt x fun k=>onRef y fun a=>onDict (H a) fun m zz=>Q (.bool (!(m k).isSome)) H
theorem o_notin:S2 G c n (compareOp .NotIn) wNotIn:=fun A o s H ls Q X x y hA hs h=>by
  refine onInt_k h fun k t e1 h=>onRef_k h fun a e2 h=>onDict_k h fun m j hH h=>?_
  rw [e1,e2]
  refine xA1_2 (live_dict hs hH) ?_;intro f hf _ hm
  have e:(f k).isSome = (m k).isSome:=by rw [<- hm k];cases f k <;> rfl
  refine notIn_intMap hf (xI1_1 H (hs.tick _) ?_)
  show Q (.bool (!(f k).isSome)) H
  rw [e];exact h
noncomputable def wListD (l:WL):WE:=fun ls Q X H=>l ls (fun vs H1=>vs.length <= 1000 /\ newL vs Q H1) X H
noncomputable def wTupD (l:WL):WE:=fun ls Q X H=>l ls (fun vs H1=>vs.length <= 1000 /\ ∀ D,H1 D = none -> Q (.ref D) (upd H1 D (.tup vs))) X H
noncomputable def wDict0:WE:=fun ls Q X H=>∀ D,H D = none -> Q (.ref D) (upd H D (.dict (fun zz=>none) 0))
theorem r_list {es:List Expr} {l:WL} {pos:Pos} (hl:SEs G c n es l):SE G c n (.List es pos) (wListD l):=fun A o s H ls Q X hA hs h =>
  wpAny_List_spliced (hl.go hA hs h (fun vs s1 H1 hs1 hqq=>(fun hlen h1=>by
    refine xA0_1 (hs1.pushed (ob:={ cls:=.type "list",data:=.seq vs.toArray }) (m:=.list (vs.map er)) (xI2_1 _ 0 rfl (by simp)) rfl s1.toks) ?_;intro p1 p2
    exact ⟨by rw [List.length_map] at hlen;exact Nat.le_trans hlen (by decide),(xI1_1 _ p2 (h1 _ p1))⟩) hqq.1 hqq.2) fun zz zz e=>e)
theorem r_tup {es:List Expr} {l:WL} {k:Nat} {pos:Pos} (hl:SEs G c n es l):SE G c n (.Tuple es k pos) (wTupD l):=fun A o s H ls Q X hA hs h =>
  wpAny_Tuple_spliced (hl.go hA hs h (fun vs s1 H1 hs1 hqq=>(fun hlen h1=>by
    refine xA0_1 (hs1.pushed (ob:={ cls:=.type "tuple",data:=.seq vs.toArray }) (m:=.tup (vs.map er)) (xI2_1 _ 0 rfl (by simp)) rfl s1.toks) ?_;intro p1 p2
    exact ⟨by rw [List.length_map] at hlen;exact Nat.le_trans hlen (by decide),(xI1_1 _ p2 (h1 _ p1))⟩) hqq.1 hqq.2) fun zz zz e=>e)
theorem r_dict0 {pos:Pos}:SE G c n (.Dict [] [] pos) wDict0:=fun A o s H ls Q X hA hs h=>by
  refine xA0_1 (hs.pushed (ob:={ cls:=.type "dict",data:=.dict #[] }) (m:=.dict (fun zz=>none) 0) ⟨rfl,(xI2_3 (#[]) 0 rfl (fun e he=>by simp at he) (Nat.le_refl _) (fun zz=>rfl))⟩ rfl s.toks) ?_;intro p1 p2
  exact wpAny_Dict_empty (xI1_1 _ p2 (h _ p1))
noncomputable def tLast (f:W2) (d:WE):V -> WT:=fun y ls Q X H=>d ls (fun z H5=>f y z (fun u H6=>truB u Q H6) X H5) X H
noncomputable def tLink (f:W2) (d:WE) (r:V -> WT):V -> WT:=fun y ls Q X H=>d ls (fun z H1=>f y z (fun u H2=>truB u (fun t H3=>br t (r z ls Q X H3) (Q false H3)) H2) X H1) X H
noncomputable def tHead (a:WE) (r:V -> WT):WT:=fun ls Q X H=>a ls (fun x H1=>r x ls Q X H1) X H
noncomputable def TC (G:Gl) (c:Cx) (n:Nat) (ops:List CmpOp) (es:List Expr) (r:V -> WT):Prop:=∀ A o s H ls Q X (pos:Pos) x,AOk n c A -> St G c o H ls s -> r (er x) ls Q X H -> wpAny (model G.prog G.w) A (testChain pos x ops (evalEach es c.env)) (RB G c o ls Q) (PX G c o ls X) s
theorem tc_last {op:CmpOp} {e:Expr} {f:W2} {d:WE} (hf:S2 G c n (compareOp op) f) (hd:SE G c n e d):TC G c n [op] [e] (tLast f d):=fun A o s H ls Q X pos x hA hs h =>
  test_last (hd.go hA hs h (fun z s1 H1 hs1 h1=>hf.go hA hs1 h1 (fun u s2 H2 hs2 h2=>truthy_ok hs2 h2) fun zz zz e=>e) fun zz zz e=>e)
theorem tc_link {op op':CmpOp} {ops:List CmpOp} {e e':Expr} {es:List Expr} {f:W2} {d:WE} {r:V -> WT} (hf:S2 G c n (compareOp op) f) (hd:SE G c n e d) (hr:TC G c n (op' :: ops) (e' :: es) r):TC G c n (op :: op' :: ops) (e :: e' :: es) (tLink f d r):=fun A o s H ls Q X pos x hA hs h =>
  test_link (hd.go hA hs h (fun z s1 H1 hs1 h1=>hf.go hA hs1 h1 (fun u s2 H2 hs2 h2=>wpAny_mono (truthy_ok hs2 h2) (fun t s3 hF1=>xA1_1 hF1 fun H3 hs3 h3=>by
    cases t
    · exact (xI1_1 H3 hs3 h3)
    · exact hr A o s3 H3 ls Q X pos z hA hs3 (h3)) fun zz zz e=>e) fun zz zz e=>e) fun zz zz e=>e)
theorem t_chain {l:Expr} {op op':CmpOp} {ops:List CmpOp} {e e':Expr} {es:List Expr} {pos:Pos} {a:WE} {r:V -> WT} (ha:SE G c n l a) (hr:TC G c n (op :: op' :: ops) (e :: e' :: es) r) (hm:lastMarks (op :: op' :: ops) (e :: e' :: es) = false:=by with_unfolding_all rfl) :
    ST G c n (.Compare l (op :: op' :: ops) (e :: e' :: es) pos) (tHead a r):=fun A o s H ls Q X hA hs h =>
  isTrue_chain (ha.go hA hs h (fun x s1 H1 hs1 h1=>hr A o s1 H1 ls Q X pos x hA hs1 h1) fun zz zz e=>e) hm
noncomputable def sNever:WS:=fun zz zz zz zz zz=>False
theorem s_never {st:Stmt}:SS G c n st sNever:=fun zz zz zz zz zz zz zz zz zz zz h=>h.elim
end
section
variable {G:Gl} {c:Cx} {n:Nat}
noncomputable def isListV (v:V) (H:MH):Prop:=∃ a xs,v = .ref a /\ H a = some (.list xs)
theorem list_meth {name:Str} {id:String} {w:List V -> WV} (slot:Slot "list" name id) (hty:typeOf (.builtin id) = pure (.type "method_descriptor")) (hw:CallOk G c n (.builtin id) w):MethOk G c n name isListV w:=fun A o s H ls pl ov E hA hs hc=>by
  refine xA2_1 hc ?_;(try clear hc);intro a xs e hH
  rw [er_ref e]
  refine xA2_1 (live_listOf hs hH) ?_;intro items k g1 g2
  exact getMethod_builtin (xI1_1 _ g1 rfl) PySem.F.plainAttrs_list slot hty (fun b e=>by cases e;exact (xI1_1 _ g1 rfl)) (xI0_3 hs (.blt _) rfl hw)
noncomputable def appW (vals:List V):WV:=fun Q zz H=>on2 vals fun x v=>onRef x fun a=>onList (H a) fun xs=>xs.length <= 100000 /\ Q .none (upd H a (.list (xs ++ [v])))
theorem app_ok (CO:CxOk G c):CallOk G c n (.builtin "list.append") appW:=fun A o s H ls Q X args hA hs h=>by
  refine on2_k h fun x v hv h=>onRef_k h fun a e h=>onList_k h fun xs hH h=>?_
  rw [hv,e]
  refine xA2_1 (live_listOf hs hH) ?_;intro items k g1 g2
  refine append_at g1 (fun h' hsb hob=>?_) (by rw [map_len g2];exact Nat.le_trans h.1 (by decide))
  exact (xI1_1 _ (hs.update CO (s':={ s with heap:=h' }) (m:=.list (xs ++ [er v])) hH hsb hob (xI2_1 _ _ rfl (by rw [Array.toList_push,List.map_append,g2];rfl)) rfl rfl) h.2)
noncomputable def insW (vals:List V):WV:=fun Q zz H=>on3 vals fun x y v=>onRef x fun a=>onInt y fun k=>onList (H a) fun xs=>(0 <= k /\ k <= xs.length /\ xs.length <= 100000) /\ Q .none (upd H a (.list (xs.take k.toNat ++ v :: xs.drop k.toNat)))
theorem ins_ok (CO:CxOk G c):CallOk G c n (.builtin "list.insert") insW:=fun A o s H ls Q X args hA hs h=>by
  refine on3_k h fun v u z hv h=>onRef_k h fun a e1 h=>onInt_k h fun k t e2 h=>onList_k h fun xs hH h=>?_
  rw [hv,e1,e2]
  refine xA0_1 h ?_;(try clear h);intro hT1 hq;refine xA0_2 hT1 ?_;(try clear hT1);intro h0 h1 h2
  refine xA2_1 (live_listOf hs hH) ?_;intro items kk g1 g2
  have hsz:=map_len g2
  have hz:items.size <= sizeLine:=by rw [hsz];exact Nat.le_trans h2 (by decide)
  refine call_meets PySem.F.slot_list_insert (xI1_1 _ g1 rfl) PySem.F.entry_list_insert (PySem.F.args_list_insert_3 _ _ _) (AutoListH.list_insert_list_int_val_1 a items kk k t z (by simp [Builtin.List.listFitsIndex];lia) hz) ⟨g1,?_⟩
  have e:=PySem.IsL.update (l:=a) (items:=items) (n:=kk) g1 (fun xs=>have k':=if k < 0 then (k + ((xs.size:Nat):Int)).toNat else min k.toNat xs.size;(xs.extract 0 k').push z ++ xs.extract k' xs.size)
  refine (xI1_1 _ (hs.update CO (s':={ s with heap:=_,toks:=s.toks }) (m:=.list (xs.take k.toNat ++ er z :: xs.drop k.toNat)) hH (Heap.SameBut.update ..) e (xI2_1 _ _ rfl ?_) rfl rfl) hq)
  have hk:¬ k < 0:=by exact oA24 h0
  have hm:min k.toNat items.size = k.toNat:=by lia
  simp only [hk,if_false,hm]
  rw [Array.toList_append,Array.toList_push,List.map_append,List.map_append]
  have e1:(items.extract 0 k.toNat).toList.map er = xs.take k.toNat:=by
    rw [Array.toList_extract,<- g2,<- List.map_take];simp
  have e2':(items.extract k.toNat items.size).toList.map er = xs.drop k.toNat:=by
    rw [Array.toList_extract,<- g2,<- List.map_drop]
    simp [List.extract_eq_take_drop]
    rw [List.take_of_length_le (by simp)]
  rw [e1,e2'];simp
structure MethK (K:Frag) (C:Addr) (name:Str) (f:Addr):Prop where
  ga:findIn K (.ref C) "__getattribute__" = some (some (.builtin "object.__getattribute__"))
  noga:findIn K (.ref C) "__getattr__" = some none
  found:findIn K (.ref C) name = some (some (.ref f))
  fn:typeIn K (.ref f) = some (.type "function")
  keep:keepIn K (.ref f) = true
noncomputable def isInst (C:Addr) (k:String) (v:V) (H:MH):Prop:=∃ a dx es,v = .ref a /\ H a = some (.inst C dx) /\ H dx = some (.attrs es) /\ es.lookup k = none
theorem own_meth (GO:GlOk G) (CO:CxOk G c) {C f:Addr} {k:String} {m:Nat} {w:List V -> WV} (MK:MethK G.K C (Str.ofString k) f) (hw:FnOk G m (.ref f) w) (hm:m <= n):MethOk G c n (Str.ofString k) (isInst C k) w:=fun A o s H ls pl ov E hA hs hc=>by
  refine xA3_3 hc ?_;(try clear hc);intro a dx es e h1 h2 h3
  rw [er_ref e]
  refine xA2_2 (hs.inst h1 h2) ?_;intro ens j g1 g2 I
  refine method_fn (GO.kin.keeps hs.base) I MK.ga MK.noga MK.found MK.fn ?_ (xI0_3 hs (.ref f MK.keep) rfl (hw.call hm CO))
  show (lookIn (Str.ofString k) (dictOf ens j)).map (·.isSome) = some false
  rw [lookIn_dict,(ents_get g1 k).2 h3];rfl
noncomputable def blW (vals:List V):WV:=fun Q zz H=>on1 vals fun v=>onInt v fun a=>Q (.int (Builtin.Int.intBits a)) H
noncomputable def isIntV (v:V) (H:MH):Prop:=∃ a,v = .int a
theorem bl_ok:CallOk G c n (.builtin "int.bit_length") blW:=fun A o s H ls Q X args hA hs h=>by
  refine on1_k h fun v hv h=>onInt_k h fun a t e h=>?_
  rw [hv,e]
  exact call_int_bit_length (xI1_1 H (hs.tick _) h)
theorem bl_meth:MethOk G c n (Str.ofString "bit_length") isIntV blW:=fun A o s H ls pl ov E hA hs hc=>by
  refine xA1_0 hc ?_;(try clear hc);intro a e
  refine xA1_0 (er_int e) ?_;intro t hT1;subst hT1
  exact getMethod_int_bit_length (xI0_3 hs (.blt _) rfl bl_ok)
theorem str_ok:CallOk G c n (.type "str") strW:=fun A o s H ls Q X args hA hs h=>by
  refine on1_k h fun v hv h=>onInt_k h fun a t e h=>?_
  rw [hv,e]
  have hb:=small_abs h.1
  refine P.str_of_int ?_ (xI1_1 H (hs.tick _) (h.2 _ ?_))
  · by_cases q:a.natAbs = 0
    · rw [q];decide
    · exact Nat.lt_trans ((Nat.log2_lt q).mpr hb) (by decide)
  · have e:=int_text_length_le (a:=a) (k:=64) (by decide) (by
      by_cases q:a.natAbs = 0
      · rw [q];decide
      · exact (Nat.log2_lt q).mpr hb)
    show (Str.ofString (toString a)).length <= 100
    rw [PySem.ofString_length];lia
noncomputable def wAndV (a b:WE):WE:=fun ls Q X H=>a ls (fun v H1=>truB v (fun t H2=>br t (b ls Q X H2) (Q v H2)) H1) X H
theorem r_and {e1 e2:Expr} {pos:Pos} {a b:WE} (ha:SE G c n e1 a) (hb:SE G c n e2 b):SE G c n (.BoolOp .And [e1,e2] pos) (wAndV a b):=fun A o s H ls Q X hA hs h =>
  BoolOp_and (ha.go hA hs h (fun v s1 H1 hs1 h1=>wpAny_mono (truthy_ok hs1 h1) (fun t s2 hF1=>xA1_1 hF1 fun H2 hs2 h2=>by
    cases t
    · exact (xI1_1 H2 hs2 h2)
    · exact BoolOp_one (hb A o s2 H2 ls Q X hA hs2 (h2))) fun zz zz e=>e) fun zz zz e=>e)
end
section
variable {G:Gl} {c:Cx} {n:Nat}
noncomputable def idxW (vals:List V):WV:=fun Q zz H=>on2 vals fun v u=>onInt u fun k=>onRef v fun a=>∃ ns:List Int,H a = some (.list (ns.map V.int)) /\ ns.length <= 100000 /\ ∃ j:Nat,ns[j]? = some k /\ (∀ m,m < j -> ns[m]? ≠ some k) /\ Q (.int j) H
noncomputable def eqInt (k:Int):Value -> Bool
  | .int a _ => a == k
  | _ => false
theorem ints_at:∀ {vs:List Value} {ns:List Int},IntsAre vs ns -> ∀ (j:Nat),(vs[j]?).map er = (ns[j]?).map V.int
  | _,_,.nil,j => by simp
  | _,_,.cons a t h,j => by
    cases j with
    | zero => rfl
    | succ j => simpa using ints_at h j
theorem idx_ok:CallOk G c n (.builtin "list.index") idxW:=fun A o s H ls Q X args hA hs h=>by
  refine on2_k h fun v u hv h=>onInt_k h fun k t e2 h=>onRef_k h fun a e h=>?_
  rw [hv,e2]
  refine xA1_2 h ?_;(try clear h);intro ns hH hlen hT1;refine xA1_2 hT1 ?_;(try clear hT1);intro j hj hno hq
  rw [e]
  refine xA2_1 (live_listOf hs hH) ?_;intro items kk g1 g2
  have hi:=ints_are g2
  have at':∀ m,(items[m]?).map er = (ns[m]?).map V.int:=fun m=>by simpa using ints_at hi m
  have hsz:items.size = ns.length:=by have:=congrArg List.length g2;simpa using this
  have eqAt:∀ m (hm:m < items.size),eqInt k items[m] = decide (ns[m]? = some k):=fun m hm=>by
    have e:=at' m
    rw [Array.getElem?_eq_getElem hm] at e
    refine xA1_1 (Option.map_eq_some_iff.mp e.symm) ?_;intro z hz hz2
    refine xA1_0 (er_int hz2.symm) ?_;intro t' ht'
    rw [ht',hz]
    by_cases q:z = k <;> simp [eqInt,q]
  have hjl:j < items.size:=by rw [hsz];exact (List.getElem?_eq_some_iff.mp hj).1
  refine call_meets PySem.F.slot_list_index (xI1_1 _ g1 rfl) PySem.F.entry_list_index (PySem.F.args_list_index_2 _ _) (MeetsSeq.list_index a items kk (.int k t) (eqInt k) (fun y hy=>?_) j hjl (by lia) (by rw [eqAt j hjl,hj];simp) (fun m hm hlt=>by rw [eqAt m hm];simpa using hno m hlt)) ⟨g1,?_⟩
  · obtain ⟨m,hm,rfl⟩:=Array.mem_iff_getElem.mp hy
    have e:=at' m
    rw [Array.getElem?_eq_getElem hm] at e
    refine xA1_1 (Option.map_eq_some_iff.mp e.symm) ?_;intro z hz hz2
    refine xA1_0 (er_int hz2.symm) ?_;intro t' ht'
    rw [ht']
    exact MeetsSeq.EqGives.int z k t' t
  · exact (xI1_1 H (hs.tick _) hq)
noncomputable def wFstr (e:WE):WE:=fun ls Q X H=>e ls (fun v H1=>onInt v fun a=>small a /\ ∀ z,Q (.str z) H1) X H
theorem r_fstr {x:Str} {k:Nat} {p1 p2 pos:Pos} {e:Expr} {w:WE} (he:SE G c n e w) (hx:x.length <= 100):SE G c n (.JoinedStr [.Constant (.str x) k p1,.FormattedValue e (-1) none p2] pos) (wFstr w):=fun A o s H ls Q X hA hs h =>
  JoinedStr_many (joinParts_cons (wpAny_Constant_str ⟨by
      have e0:(Str.empty ++ x).length = x.length:=by rw [strLen_append];simp [show Str.empty.length = 0 from rfl]
      rw [e0];exact Nat.le_trans hx (by decide),
    joinParts_cons (FormattedValue_plain (he.go hA (hs.tick _) h (fun v s1 H1 hs1 h1=>by
      refine onInt_k h1 fun a t hv h1=>?_
      rw [hv]
      have hb:=small_abs h1.1
      have hl:a.natAbs.log2 < 1920:=by
        by_cases q:a.natAbs = 0
        · rw [q];decide
        · exact Nat.lt_trans ((Nat.log2_lt q).mpr hb) (by decide)
      refine formatField_int_small hl ?_
      have e:=int_text_length_le (a:=a) (k:=64) (by decide) (by
        by_cases q:a.natAbs = 0
        · rw [q];decide
        · exact (Nat.log2_lt q).mpr hb)
      have e2:(Str.empty ++ x ++ (Str.ofString (toString a))).length <= 1000:=by
        rw [strLen_append,strLen_append,PySem.ofString_length]
        have:Str.empty.length = 0:=rfl
        lia
      refine ⟨Nat.le_trans e2 (by decide),joinParts_nil (xI1_1 H1 ((hs1.tick _).tick _) (h1.2 _)) (Nat.le_trans e2 (by decide))⟩) fun zz zz e=>e))⟩))
noncomputable def setAll:List (Nat × V) -> List V -> List V
  | [],ls => ls
  | (i,v) :: r,ls => (setAll r ls).set i v
noncomputable def sAsgSw (is:List Nat) (e:WE):WS:=fun ls Qn zz X H=>e ls (fun v H'=>onRef v fun t=>onTup (H' t) fun vs=>vs.length = is.length /\ Qn (setAll (is.zip vs) ls) H') X H
inductive LocNames (c:Cx):List Nat -> List Str -> Prop
  | nil : LocNames c [] []
  | cons {i x is xs} : c.names[i]? = some x -> c.env.kindOf x = some .local -> LocNames c is xs -> LocNames c (i :: is) (x :: xs)
theorem locNames_len {is:List Nat} {xs:List Str} (h:LocNames c is xs):is.length = xs.length:=by
  induction h with
  | nil => rfl
  | cons _ _ _ ih => simp [ih]
theorem bindNames_ok (CO:CxOk G c) {is:List Nat} {xs:List Str} (h:LocNames c is xs):∀ {vs:List Value} {rest:List Value} {fs:List (Value -> Sem Unit)} {A:Around} {o:Org} {s:Shared} {H:MH} {ls:List V} {Q:Unit -> Shared -> Prop} {E:Value -> Shared -> Prop},St G c o H ls s -> vs.length = is.length ->
    (∀ s',St G c o H (setAll (is.zip (vs.map er)) ls) s' -> wpAny (model G.prog G.w) A (assignInOrder fs rest) Q E s') ->
    wpAny (model G.prog G.w) A (assignInOrder ((xs.map fun x=>bindName c.env x).reverse ++ fs) (vs.reverse ++ rest)) Q E s:=by
  induction h with
  | nil =>
    intro vs rest fs A o s H ls Q E hs hl hk
    have:vs = []:=List.length_eq_zero_iff.mp hl
    subst this
    exact hk s hs
  | @cons i x is xs hi hx hr ih =>
    intro vs rest fs A o s H ls Q E hs hl hk
    refine xA2_0 (List.exists_cons_of_length_eq_add_one hl) ?_;intro v vs hT1;subst hT1
    have hl':vs.length = is.length:=by simpa using hl
    simp only [List.map_cons,List.reverse_cons,List.append_assoc,List.singleton_append]
    refine ih hs hl' fun s' hs'=>?_
    refine wpAny_assignInOrder_more (wpAny_bindName (wpAny_mono (storeLocal_ok CO hs' hi hx) (fun zz s2 h2=>hk s2 h2) fun zz zz e=>e))
theorem s_asgSw (CO:CxOk G c) {es:List Expr} {k:Nat} {tpos pos:Pos} {e:Expr} {w:WE} {is:List Nat} {xs:List Str} (hn:LocNames c is xs) (he:SE G c n e w)
    (hs:∀ env,swapsWithSole [.Tuple es k tpos] e pos.line env = pure false:=by intro _;rfl) (hw:swappedStores [.Tuple es k tpos] e c.env = pure (some xs):=by rfl):SS G c n (.Assign [.Tuple es k tpos] e pos) (sAsgSw is w):=fun A o s H ls Qn Qr X hA hst h =>
  Assign_Tuple_swapped (he.go hA hst h (fun v s1 H1 hs1 h1=>by
    refine xA1_1 hs1.frame.loc ?_;intro m hnn _
    refine onRef_k h1 fun t ht h1=>onTup_k h1 fun vs hH h1=>?_
    rw [ht]
    refine xA1_1 (live_tup hs1 hH) ?_;intro items hT1 g4;refine xA1_2 hT1 ?_;(try clear hT1);intro ob g1 g2 hT2;refine xA1_0 hT2 ?_;(try clear hT2);intro kk g3
    have hlen:items.toList.length = is.length:=by rw [<- h1.1,<- g4,List.length_map]
    have hxl:xs.length = items.size:=by rw [<- locNames_len hn,<- hlen,Array.length_toList]
    rw [hxl]
    refine unpackItems_tuple hA.2.1 (xI1_2 ob g1 g2 ⟨ kk,g3⟩) fun h' hx=>?_
    have hs2:St G c o H1 ls { s1 with heap:=h' }:=hs1.keeps (s':={ s1 with heap:=h' }) (fun b y e=>hx b y (fun q=>Nat.lt_irrefl _ (q ▸ Heap.lt_size e)) e) rfl rfl
    have e1:(xs.reverse.map fun n=>bindName c.env n) = (xs.map fun x=>bindName c.env x).reverse ++ []:=by rw [List.append_nil,List.map_reverse]
    rw [e1,<- List.append_nil items.toList.reverse]
    refine bindNames_ok CO hn hs2 hlen fun s3 hs3=>wpAny_assignInOrder_none ?_
    exact (xI2_1 _ H1 hs3 (by rw [g4];exact h1.2))) fun zz zz e=>⟨ls,e⟩) (hs _) hw
end
theorem bb_lookup:typeLookup (.type "bytes") "__bytes__" = pure (some (.builtin "bytes.__bytes__")):=by rw [typeLookup_type,builtinLookup_eq_fast];kernel_rfl
theorem ba_no_bytes:typeLookup (.type "bytearray") "__bytes__" = pure none:=by rw [typeLookup_type,builtinLookup_eq_fast];kernel_rfl
theorem ba_no_index:typeLookup (.type "bytearray") "__index__" = pure none:=by rw [typeLookup_type,builtinLookup_eq_fast];kernel_rfl
theorem ba_buffer:typeLookup (.type "bytearray") "__buffer__" = pure (some (.builtin "bytearray.__buffer__")):=by rw [typeLookup_type,builtinLookup_eq_fast];kernel_rfl
theorem ba_release:∃ r,typeLookup (.type "bytearray") "__release_buffer__" = pure r /\ (r = none ∨ r = some (.builtin "bytearray.__release_buffer__")):=by
  refine (xI1_1 (some (.builtin "bytearray.__release_buffer__")) ?_ (.inr rfl))
  rw [typeLookup_type,builtinLookup_eq_fast];kernel_rfl
theorem ba_cut1 : "bytearray.__buffer__".dropRight ("__buffer__".length + 1) = "bytearray" := by decide +kernel
theorem ba_cut2 : "bytearray.__release_buffer__".dropRight ("__release_buffer__".length + 1) = "bytearray" := by decide +kernel
theorem ba_sub:isSubtype (.type "bytearray") (.type "bytearray") = pure true:=by rw [isSubtype_type];kernel_rfl
section
variable {prog:Program} {w:World} {A:Around} {E:Value -> Shared -> Prop} {s:Shared}
theorem bb_new {b:Array UInt8} {t:Tok} {Q:Value -> Shared -> Prop} (hQ:Q (.bytes b t) s) :
    codeAny (model prog w) A (.call (.builtin "bytes.__new__") ⟨[.type "bytes",.bytes b t],[]⟩) (wants Q E) s:=by
  refine codeAny_of_tree ?_
  show wpAny _ A.in1 (do checkBuiltinCall "bytes.__new__" ⟨[.type "bytes",.bytes b t],[]⟩;again (.builtin "bytes.__new__" ⟨[.type "bytes",.bytes b t],[]⟩)) _ _ s
  refine wpAny_bind (wpAny_of_eq (F.bm_newCall _) (wpAny_pure ⟨plainId_quiet F.bm_plain _,codeAny_builtin F.bm_entry ?_⟩))
  rw [Around.under_plainId F.bm_plain _]
  have hT:s.TypeIs (.bytes b t) "bytes" := typeIs_bytes s b t
  unfold Builtin.«bytes.__new__»
  refine wpAny_bind (wpAny_of_eq (a:=true) rfl ?_)
  refine bm_if_false rfl ?_
  refine wpAny_bind (wpAny_of_eq F.bm_sub ?_)
  refine bm_if_false rfl ?_
  refine wpAny_bind (wpAny_of_eq (F.bm_bind _) ?_)
  refine wpAny_bind (wpAny_of_eq (a:=()) rfl ?_)
  refine wpAny_bind (wpAny_of_eq (a:=()) rfl ?_)
  refine bm_if_false rfl ?_
  refine wpAny_bind (wpAny_specialOf hT bb_lookup ?_)
  dsimp only
  refine wpAny_bind (wpAny_rule (wpAny_bind (wpAny_typeOf hT ?_)))
  refine bm_if_true (by decide) ?_
  show wpAny _ _ (if (Value.type "bytes" == Value.type "bytes") = true then _ else _) _ _ _
  refine bm_if_true (by decide) ?_
  first
    | exact wpAny_pure hQ
    | exact wpAny_bind (wpAny_pure (wpAny_pure hQ))
theorem call_bytes_bytes {b:Array UInt8} {t:Tok} {Q:Value -> Shared -> Prop} (hQ:Q (.bytes b t) s):wpAny (model prog w) A (call (.type "bytes") [.bytes b t]) Q E s:=by
  refine callType_codes (Q₁:=fun obj s₁=>s₁.TypeIs obj "bytes" /\ Q obj s₁) F.bm_called (F.bm_typeCall _) F.entry_object_init
    (bb_new ⟨typeIs_bytes _ _ _,hQ⟩) fun obj s₁ h₁=>?_
  exact (xI0_2 h₁.1 (F.args_object_init_2 obj _) (object_init_meets F.bm_called.init.lookup F.bm_called.made (by decide) prog w A.in1 _ s₁ (xI0_2 h₁.1 rfl h₁.2)))
theorem ba_new {a:Addr} {o:Obj} {b:Array UInt8} {k:Nat} {Q:Value -> Shared -> Prop} (ho:s.heap.get? a = some o) (hc:o.cls = .type "bytearray") (hd:o.data = .bytearray b k) (hz:b.size <= sizeLine) (hQ:∀ t tk,Q (.bytes b t) { s with toks:=tk }) :
    codeAny (model prog w) A (.call (.builtin "bytes.__new__") ⟨[.type "bytes",.ref a],[]⟩) (wants Q E) s:=by
  refine codeAny_of_tree ?_
  show wpAny _ A.in1 (do checkBuiltinCall "bytes.__new__" ⟨[.type "bytes",.ref a],[]⟩;again (.builtin "bytes.__new__" ⟨[.type "bytes",.ref a],[]⟩)) _ _ s
  refine wpAny_bind (wpAny_of_eq (F.bm_newCall _) (wpAny_pure ⟨plainId_quiet F.bm_plain _,codeAny_builtin F.bm_entry ?_⟩))
  rw [Around.under_plainId F.bm_plain _]
  have hT:s.TypeIs (.ref a) "bytearray" := (xI1_1 o ho hc)
  unfold Builtin.«bytes.__new__»
  refine wpAny_bind (wpAny_of_eq (a:=true) rfl ?_)
  refine bm_if_false rfl ?_
  refine wpAny_bind (wpAny_of_eq F.bm_sub ?_)
  refine bm_if_false rfl ?_
  refine wpAny_bind (wpAny_of_eq (F.bm_bind _) ?_)
  refine wpAny_bind (wpAny_of_eq (a:=()) rfl ?_)
  refine wpAny_bind (wpAny_of_eq (a:=()) rfl ?_)
  refine bm_if_false rfl ?_
  refine wpAny_bind (wpAny_specialOf hT ba_no_bytes ?_)
  refine wpAny_bind (wpAny_bind ?_)
  show wpAny _ _ (load a >>= _) _ _ _
  refine wpAny_bind (wpAny_load ho ?_)
  rw [hd]
  refine wpAny_pure (wpAny_pure ?_)
  refine bm_if_false rfl ?_
  refine wpAny_bind (wpAny_specialOf hT ba_no_index ?_)
  refine bm_if_true rfl ?_
  first
    | show wpAny _ _ (Builtin.Bytes.buffer? "bytes.__new__" (.ref a) true >>= _) _ _ _
    | (refine wpAny_bind ?_;show wpAny _ _ (Builtin.Bytes.buffer? "bytes.__new__" (.ref a) true >>= _) _ _ _)
  refine wpAny_bind ?_
  unfold Builtin.Bytes.buffer?
  refine wpAny_bind (wpAny_specialOf hT ba_buffer ?_)
  dsimp only
  have own1:∀ {A:Around} {Q:Bool -> Shared -> Prop} {E:Value -> Shared -> Prop},Q true s -> wpAny (model prog w) A (Builtin.Bytes.slotIsOwn (.ref a) "__buffer__") Q E s:=fun hq=>by
    unfold Builtin.Bytes.slotIsOwn
    refine wpAny_bind (wpAny_specialOf hT ba_buffer ?_)
    dsimp only
    refine bm_if_false (by decide +kernel) ?_
    rw [ba_cut1]
    exact wpAny_isInstance hT ba_sub hq
  have own2:∀ {A:Around} {Q:Bool -> Shared -> Prop} {E:Value -> Shared -> Prop},Q false s -> wpAny (model prog w) A (Builtin.Bytes.ownRelease (.ref a)) Q E s:=fun hq=>by
    unfold Builtin.Bytes.ownRelease Builtin.Bytes.slotIsOwn
    refine xA1_1 ba_release ?_;(try clear ba_release);intro r hr h
    rcases h with rfl | rfl
    · exact wpAny_bind (wpAny_bind (wpAny_specialOf hT hr (wpAny_pure (wpAny_pure hq))))
    · refine wpAny_bind (wpAny_bind (wpAny_specialOf hT hr ?_))
      dsimp only
      refine bm_if_false (by decide +kernel) ?_
      rw [ba_cut2]
      exact wpAny_isInstance hT ba_sub (wpAny_pure hq)
  refine wpAny_bind (own1 ?_)
  refine bm_if_false rfl ?_
  refine wpAny_bind (wpAny_specialOf hT ba_buffer ?_)
  refine wpAny_bind (own2 ?_)
  refine bm_if_false rfl ?_
  refine wpAny_bind ?_
  unfold Builtin.Bytes.payload Builtin.Bytes.payload?
  refine wpAny_bind (wpAny_bind (wpAny_load ho ?_))
  rw [hd]
  refine wpAny_pure (wpAny_pure (wpAny_pure ?_))
  dsimp only
  refine wpAny_bind (wpAny_rule (wpAny_bind (wpAny_mkBytes ?_ hz)))
  show wpAny _ _ (if (Value.type "bytes" == Value.type "bytes") = true then _ else _) _ _ _
  refine bm_if_true (by decide) ?_
  first
    | exact wpAny_pure (hQ _ _)
    | exact wpAny_bind (wpAny_pure (wpAny_pure (hQ _ _)))
theorem call_bytes_ba {a:Addr} {o:Obj} {b:Array UInt8} {k:Nat} {Q:Value -> Shared -> Prop} (ho:s.heap.get? a = some o) (hc:o.cls = .type "bytearray") (hd:o.data = .bytearray b k) (hz:b.size <= sizeLine) (hQ:∀ t tk,Q (.bytes b t) { s with toks:=tk }) :
    wpAny (model prog w) A (call (.type "bytes") [.ref a]) Q E s:=by
  refine callType_codes (Q₁:=fun obj s₁=>s₁.TypeIs obj "bytes" /\ Q obj s₁) F.bm_called (F.bm_typeCall _) F.entry_object_init
    (ba_new ho hc hd hz fun t tk=>⟨typeIs_bytes _ _ _,hQ t tk⟩) fun obj s₁ h₁=>?_
  exact (xI0_2 h₁.1 (F.args_object_init_2 obj _) (object_init_meets F.bm_called.init.lookup F.bm_called.made (by decide) prog w A.in1 _ s₁ (xI0_2 h₁.1 rfl h₁.2)))
end
section
variable {G:Gl} {c:Cx} {n:Nat}
noncomputable def bytesW (vals:List V):WV:=fun Q zz H=>on1 vals fun v=>onV v False (fun zz=>False) (fun zz=>False) (fun b=>Q (.bytes b) H) fun a=>onLB (H a) (fun xs=>∃ ns:List Int,xs = ns.map V.int /\ (∀ k ∈ ns,0 <= k /\ k < 256) /\ ns.length <= 100000 /\ Q (.bytes (ns.map Int.toNat)) H) fun l=>l.length <= 100000 /\ Q (.bytes l) H
theorem byteArr_nat {ns:List Int} (h:∀ k ∈ ns,0 <= k /\ k < 256):(byteArr ns).toList.map UInt8.toNat = ns.map Int.toNat:=by
  unfold byteArr
  rw [List.map_map]
  refine List.map_congr_left fun k hk=>?_
  refine xA0_1 (h k hk) ?_;intro h0 h1
  show (k.toNat.toUInt8).toNat = k.toNat
  have:k.toNat < 256:=by exact oA31 h1
  simp [Nat.toUInt8,Nat.mod_eq_of_lt this]
theorem bytes_ok:CallOk G c n (.type "bytes") bytesW:=fun A o s H ls Q X args hA hs h=>by
  refine on1_k h fun v hv h=>onV_k h (fun zz h=>h.elim) (fun zz zz h=>h.elim) (fun zz zz zz h=>h.elim) (fun b1 t e h=>?_) fun a e h=>onLB_k h (fun xs hH h=>?_) fun l hH h=>?_
  all_goals rw [hv,e]
  · exact call_bytes_bytes (xI1_1 H hs h)
  · refine xA1_0 h ?_;(try clear h);intro ns hT1;refine xA0_3 hT1 ?_;(try clear hT1);intro hT2;subst hT2;intro hr hz hq
    refine xA1_1 (live_list hs hH) ?_;intro items hl he
    have hlen:items.toList.length = ns.length:=by have:=congrArg List.length he;simpa using this
    refine call_bytes_ints (vs:=items.toList) (ns:=ns) (by simpa using hl) (ints_are he) hr (by rw [hlen];exact Nat.le_trans hz (by decide)) hA.2.1 fun h' t k hk=>(xI1_1 H (hs.keeps hk rfl rfl) ?_)
    show Q (.bytes ((byteArr ns).toList.map UInt8.toNat)) H
    rw [byteArr_nat hr];exact hq
  · refine xA0_1 h ?_;(try clear h);intro hz hq
    refine xA1_2 (hs.live hH) ?_;intro ob g1 g2 hT1;refine xA1_2 hT1 ?_;(try clear hT1);intro b g3 g4 _
    have hsz:b.size = l.length:=by rw [<- g4,List.length_map,Array.length_toList]
    refine call_bytes_ba g1 g2 g3 (by rw [hsz];exact Nat.le_trans hz (by decide)) fun t tk=>(xI1_1 H (hs.tick _) ?_)
    show Q (.bytes (b.toList.map UInt8.toNat)) H
    rw [g4];exact hq
end
noncomputable def okCode:Code -> Bool
  | .builtin id _ => !(PySem.Builtin.Bytes.decodersThatHold.contains id) && !(guardIds.contains id)
  | _ => true
noncomputable def CleanB (Γ:Ctx):Prop:=∀ x ∈ Γ.below,okCode x.1 = true
noncomputable def Clean (Γ:Ctx):Prop:=okCode Γ.code = true /\ CleanB Γ
noncomputable def wpN {α:Type} (M:Model) (A:Around) (t:Sem α) (Q:α -> Shared -> Prop) (E:Value -> Shared -> Prop) (s:Shared):Prop :=
  ∀ Γ p,Γ.In A -> Clean Γ -> Sem.wp M Γ t (fun a zz s'=>Q a s') (fun e zz s'=>E e s') p s
noncomputable def codeN (M:Model) (A:Around) (c:Code) (R:Result -> Shared -> Prop) (s:Shared):Prop :=
  ∀ Γ p,Γ.code = c -> Γ.Below A -> CleanB Γ -> wpCode M Γ R p s
section
variable {α β:Type} {M:Model} {A:Around} {E:Value -> Shared -> Prop} {s:Shared}
theorem n_of {t:Sem α} {Q:α -> Shared -> Prop} (h:wpAny M A t Q E s):wpN M A t Q E s:=fun Γ p hΓ _=>h Γ p hΓ
theorem codeN_of {c:Code} {R:Result -> Shared -> Prop} (h:codeAny M A c R s):codeN M A c R s:=fun Γ p hc hΓ _=>h Γ p hc hΓ
theorem n_pure {a:α} {Q:α -> Shared -> Prop} (h:Q a s):wpN M A (pure a) Q E s:=fun zz zz zz zz=>h
theorem n_mono {t:Sem α} {Q Q':α -> Shared -> Prop} {E':Value -> Shared -> Prop} (h:wpN M A t Q E s) (hQ:∀ a s,Q a s -> Q' a s) (hE:∀ e s,E e s -> E' e s):wpN M A t Q' E' s :=
  fun Γ p hΓ hC=>Sem.wp_mono M Γ t (fun a zz s=>hQ a s) (fun e zz s=>hE e s) p s (h Γ p hΓ hC)
theorem n_bind {m:Sem α} {f:α -> Sem β} {Q:β -> Shared -> Prop} (h:wpN M A m (fun a s'=>wpN M A (f a) Q E s') E s):wpN M A (m >>= f) Q E s:=fun Γ p hΓ hC=>by
  rw [Sem.wp_bind']
  exact Sem.wp_mono M Γ m (fun a p' s' h'=>h' Γ p' hΓ hC) (fun zz zz zz h'=>h') p s (h Γ p hΓ hC)
theorem n_eq {t u:Sem α} {Q:α -> Shared -> Prop} (e:t = u) (h:wpN M A u Q E s):wpN M A t Q E s:=e ▸ h
theorem n_onRaise {m:Sem α} {k:Value -> Sem Unit} {Q:α -> Shared -> Prop} (h:wpN M A m Q (fun e s'=>wpN M A (k e) (fun zz s''=>E e s'') E s') s):wpN M A (m.onRaise k) Q E s:=fun Γ p hΓ hC=>by
  rw [Sem.wp_onRaise]
  exact Sem.wp_mono M Γ m (fun zz zz zz h'=>h') (fun e p' s' h'=>h' Γ p' hΓ hC) p s (h Γ p hΓ hC)
theorem n_attempt {m:Sem α} {Q:Except Value α -> Shared -> Prop} (h:wpN M A m (fun a=>Q (.ok a)) (fun e=>Q (.error e)) s):wpN M A m.attempt Q E s:=fun Γ p hΓ hC=>by rw [Sem.wp_attempt];exact h Γ p hΓ hC
theorem n_holding {vs:List Value} {m:Sem α} {Q:α -> Shared -> Prop} (h:wpN M A m Q E s):wpN M A (holding vs m) Q E s:=fun Γ p hΓ hC=>by rw [Sem.wp_holding];exact h Γ p hΓ hC
theorem n_standAt {pos:Pos} {Q:Unit -> Shared -> Prop} (h:Q () s):wpN M A (standAt pos) Q E s:=fun zz zz zz zz=>h
theorem n_point {Q:Unit -> Shared -> Prop} (h:Q () s):wpN M A point Q E s:=fun zz zz zz zz=>h
theorem n_operate {vs:List Value} {m:Sem Value} {Q:Value -> Shared -> Prop} (h:wpN M A m Q E s):wpN M A (operate vs m) Q E s:=fun Γ p hΓ hC=>by
  rw [Sem.wp_operate];exact h Γ p hΓ hC
theorem Clean.enter {Γ:Ctx} (h:Clean Γ) (c:Code) (hd:Option Value) (p:Pos):CleanB (Γ.enter c hd p):=fun x hx=>by
  rcases List.mem_cons.mp hx with rfl | hx
  · exact h.1
  · exact h.2 x hx
theorem n_run {c:Code} {h:Option Value} {Q:Flow -> Shared -> Prop} (hc:codeN M (A.mark h) c (fun r s'=>match r with | .ok f=>Q f s' | .error e=>E e s') s) (hnb:h ≠ some byPass:=by intro x;cases x):wpN M A (run c h) Q E s :=
  fun Γ p hΓ hC=>by rw [Sem.wp_run];exact hc _ p rfl (hΓ.enter c h p hnb) (hC.enter c h p)
theorem n_runValue {c:Code} {Q:Value -> Shared -> Prop} (hc:codeN M A c (fun r s'=>match r with | .ok (.ret v)=>Q v s' | .ok _=>False | .error e=>E e s') s):wpN M A (runValue c) Q E s:=fun Γ p hΓ hC=>by
  rw [Sem.wp_runValue];exact hc _ p rfl (hΓ.enter c none p (by intro x;cases x)) (hC.enter c none p)
theorem n_call {f:Value} {pos:List Value} {kw:List (Str × Value)} {Q:Value -> Shared -> Prop} (hc:codeN M A (.call f ⟨pos,kw⟩) (fun r s'=>match r with | .ok (.ret v)=>Q v s' | .ok _=>False | .error e=>E e s') s):wpN M A (call f pos kw) Q E s:=n_runValue hc
theorem codeN_mono {c:Code} {R R':Result -> Shared -> Prop} (h:codeN M A c R s) (hR:∀ r s,R r s -> R' r s):codeN M A c R' s:=fun Γ p hc hΓ hC=>wpCode_mono hR (h Γ p hc hΓ hC)
theorem codeN_of_tree {c:Code} {R:Result -> Shared -> Prop} (hk:okCode c = true)
    (h:wpN M (A.under c) (M.den c) (fun fin s'=>match fin with | .done f=>R (.ok f) s' | .again c'=>c'.quiet = true /\ codeN M A c' R s') (fun e s'=>R (.error e) s') s):codeN M A c R s:=fun Γ p hc hΓ hC=>by
  rw [wpCode_iff_wp,hc]
  refine Sem.wp_mono M Γ _ (fun fin p' s' h'=>?_) (fun zz zz zz h'=>h') p s (h Γ p (hc ▸ hΓ.in) ⟨by rw [hc];exact hk,hC⟩)
  cases fin with
  | done f => exact h'
  | again c' => exact ⟨h'.1,h'.2 (Γ.goto c') p' rfl (hΓ.goto c') hC⟩
theorem codeN_loop {c:Code} {R:Result -> Shared -> Prop} (hk:okCode c = true) (hq:c.quiet = true) (I:Nat -> Shared -> Prop)
    (turn:∀ n s,I n s -> wpN M (A.under c) (M.den c)
      (fun fin s'=>match fin with | .done f=>R (.ok f) s' | .again c'=>(c' = c /\ ∃ m,m < n /\ I m s') ∨ (c'.quiet = true /\ codeN M A c' R s')) (fun e s'=>R (.error e) s') s)
    (n:Nat) (h:I n s):codeN M A c R s:=by
  induction n using Nat.strongRecOn generalizing s with
  | ind n ih =>
    refine codeN_of_tree hk (n_mono (turn n s h) (fun fin s' hf=>?_) fun zz zz h'=>h')
    cases fin with
    | done f => exact hf
    | again c' =>
      rcases hf with ⟨rfl,m,hm,hI⟩ | hf
      · exact ⟨hq,ih m hm hI⟩
      · exact hf
end
theorem n_exported {M:Model} {A:Around} {E:Value -> Shared -> Prop} {s:Shared} {v:Value} {Q:Bool -> Shared -> Prop} (h:Q false s):wpN M A (PySem.Builtin.Bytes.exported v) Q E s:=fun Γ p hΓ hC=>by
  unfold PySem.Builtin.Bytes.exported
  rw [Sem.wp_bind']
  have ok:∀ x ∈ (Γ.code,p) :: Γ.below,okCode x.1 = true:=fun x hx=>by
    rcases List.mem_cons.mp hx with rfl | hx
    · exact hC.1
    · exact hC.2 x hx
  have none:∀ f:Code × Pos -> Bool,(∀ c q,okCode c = true -> f (c,q) = false) -> List.any ((Γ.code,p) :: Γ.below) f = false:=fun f hf=>by
    rw [List.any_eq_false]
    intro x hx
    rw [hf x.1 x.2 (ok x hx)]
    exact Bool.false_ne_true
  show Q (List.any ((Γ.code,p) :: Γ.below) _) s
  rw [none _ fun c q h1=>?_]
  · exact h
  · cases c with
    | builtin id a =>
      simp only [okCode,Bool.and_eq_true,Bool.not_eq_true'] at h1
      refine xA0_1 h1 ?_;(try clear h1);intro g1 g2
      have ne:∀ z,(PySem.Builtin.Bytes.decodersThatHold.contains z || guardIds.contains z) = true -> id ≠ z:=fun z hz e=>by
        rw [<- e,g1,g2] at hz;cases hz
      delta PySem.Builtin.Bytes.exported.match_1
      show dite (id = "bytearray.__contains__") _ _ = false
      refine (dif_neg (ne "bytearray.__contains__" (by decide +kernel))).trans ?_
      refine (dif_neg (ne "bytearray.__mod__" (by decide +kernel))).trans ?_
      refine (dif_neg (ne "bytearray.__rmod__" (by decide +kernel))).trans ?_
      refine (dif_neg (ne "_struct.pack_into.held" (by decide +kernel))).trans ?_
      refine (dif_neg (ne "bytearray.find.held" (by decide +kernel))).trans ?_
      obtain ⟨ps,kw⟩:=a
      cases ps with
      | nil => rfl
      | cons v r =>
        show (_ && PySem.Builtin.Bytes.decodersThatHold.contains id) = false
        rw [g1,Bool.and_false]
    | _ => rfl
theorem ba_slot_append:Slot "bytearray" "append" "bytearray.append" :=
  .of (owner := "bytearray") (n := "append") (by rw [typeLookup_type,builtinLookup_eq_fast];kernel_rfl) (by decide +kernel) (by decide +kernel) (by decide +kernel)
    (by first | exact .inl (by decide +kernel) | exact .inr (by decide +kernel)) (by rw [isSubtype_type];kernel_rfl)
theorem ba_slot_init:Slot "bytearray" "__init__" "bytearray.__init__" :=
  .of (owner := "bytearray") (n := "__init__") (by rw [typeLookup_type,builtinLookup_eq_fast];kernel_rfl) (by decide +kernel) (by decide +kernel) (by decide +kernel)
    (by first | exact .inl (by decide +kernel) | exact .inr (by decide +kernel)) (by rw [isSubtype_type];kernel_rfl)
theorem ba_mro:mroOf (.type "bytearray") = pure [.type "bytearray",.type "object"]:=by rw [mroOf_type];kernel_rfl
theorem ba_lookup_new:typeLookup (.type "bytearray") "__new__" = pure (some (.builtin "bytearray.__new__")):=by rw [typeLookup_type,builtinLookup_eq_fast];kernel_rfl
theorem ba_called:TypeCalled "bytearray" "bytearray.__new__" "bytearray.__init__" :=
  ⟨by decide +kernel,by decide +kernel,(xI2_0 _ _ ba_mro),madeBy_type ba_mro ba_lookup_new (by decide +kernel),by decide +kernel,by rw [isSubtype_type];kernel_rfl,ba_slot_init⟩
theorem ba_typeCall:checkTypeCall "bytearray" ⟨[],[]⟩ = pure ():=by kernel_rfl
theorem ba_newCall:checkBuiltinCall "bytearray.__new__" ⟨[.type "bytearray"],[]⟩ = pure ():=by kernel_rfl
theorem ba_plain_new:plainId "bytearray.__new__" = true:=by decide +kernel
theorem ba_entry_new:entryFor table "bytearray.__new__" = some Builtin.«list.__new__»:=entryFor_alias (id' := "list.__new__") (by rw [fastTable_eq_tree];kernel_rfl) (by decide +kernel) (by decide +kernel) (by rw [fastTable_eq_tree];kernel_rfl)
theorem ba_entry_init:entryFor table "bytearray.__init__" = some Builtin.«bytearray.__init__»:=by first | exact entryFor_of_fast (by kernel_rfl) | exact entryFor_of_tree (by kernel_rfl)
theorem ba_entry_append:entryFor table "bytearray.append" = some Builtin.«bytearray.append»:=by first | exact entryFor_of_fast (by kernel_rfl) | exact entryFor_of_tree (by kernel_rfl)
theorem ba_args_append (a b:Value):argsOk "bytearray.append" ⟨[a,b],[]⟩:=by kernel_rfl
theorem ba_args_init (a:Value):argsOk "bytearray.__init__" ⟨[a],[]⟩:=by kernel_rfl
theorem ba_bind:Builtin.Bytes.bindOptional "bytearray.__init__" "bytearray" ["source", "encoding", "errors"] [] [] = pure [none,none,none]:=by kernel_rfl
set_option maxRecDepth 1000000 in
set_option maxHeartbeats 4000000 in
theorem ba_owner:("bytearray.__new__".splitOn ".__new__").headD "" = "bytearray" := by simp +decide [String.splitOn,String.splitOnAux]
theorem ok_of {id:String} (h:(!(PySem.Builtin.Bytes.decodersThatHold.contains id) && !(guardIds.contains id)) = true) (args:Args):okCode (.builtin id args) = true:=h
theorem ba_ok_append (args:Args):okCode (.builtin "bytearray.append" args) = true:=ok_of (by decide +kernel) args
theorem ba_ok_init (args:Args):okCode (.builtin "bytearray.__init__" args) = true:=ok_of (by decide +kernel) args
theorem ok_type_call (args:Args):okCode (.builtin "type.__call__" args) = true:=ok_of (by decide +kernel) args
section
variable {prog:Program} {w:World} {A:Around} {E:Value -> Shared -> Prop} {s:Shared} {R:Result -> Shared -> Prop}
theorem n_builtin0 {id:String} {args:Args} {b:Builtin} (hk:okCode (.builtin id args) = true) (hb:entryFor table id = some b)
    (h:wpN (model prog w) (A.under (.builtin id args)) (b args) (fun fin s'=>match fin with | .done f=>R (.ok f) s' | .again c'=>c'.quiet = true /\ codeN (model prog w) A c' R s') (fun e s'=>R (.error e) s') s) :
    codeN (model prog w) A (.builtin id args) R s:=by
  refine codeN_of_tree hk ?_
  show wpN _ _ (match entryFor table id with | some b=>b args | none=>unsupported ((withoutEnding? id "#data").getD id)) _ _ s
  rw [hb];exact h
theorem n_builtin {id:String} {args:Args} {b:Builtin} (hk:okCode (.builtin id args) = true) (hq:plainId id = true) (hb:entryFor table id = some b)
    (h:wpN (model prog w) A.in1 (b args) (fun fin s'=>match fin with | .done f=>R (.ok f) s' | .again c'=>c'.quiet = true /\ codeN (model prog w) A c' R s') (fun e s'=>R (.error e) s') s) :
    codeN (model prog w) A (.builtin id args) R s:=by
  refine codeN_of_tree hk ?_
  show wpN _ _ (match entryFor table id with | some b=>b args | none=>unsupported ((withoutEnding? id "#data").getD id)) _ _ s
  rw [hb,Around.under_plainId hq args];exact h
theorem n_call_builtin {id:String} {args:Args} {b:Builtin} (hk:okCode (.builtin id args) = true) (hq:plainId id = true) (hb:entryFor table id = some b)
    (hc:∀ Q:Unit -> Shared -> Prop,Q () s -> wpAny (model prog w) A.in1 (checkBuiltinCall id args) Q (fun e s'=>R (.error e) s') s)
    (h:wpN (model prog w) A.in1 (b args) (fun fin s'=>match fin with | .done f=>R (.ok f) s' | .again c'=>c'.quiet = true /\ codeN (model prog w) A c' R s') (fun e s'=>R (.error e) s') s) :
    codeN (model prog w) A (.call (.builtin id) args) R s:=by
  refine codeN_of_tree rfl ?_
  show wpN _ A.in1 (do checkBuiltinCall id args;again (.builtin id args)) _ _ s
  exact n_bind (n_of (hc _ (n_pure (And.intro (plainId_quiet hq args) (n_builtin hk hq hb h)))))
theorem n_write {a:Addr} {o:Obj} {b:Array UInt8} {k:Nat} {f:Array UInt8 -> Array UInt8} {Q:Unit -> Shared -> Prop} (ho:s.heap.get? a = some o) (hd:o.data = .bytearray b k) (hz:(f b).size <= sizeLine)
    (hQ:Q () { s with heap:=s.heap.update a (Obj.mapBytearray f) }):wpAny (model prog w) A (PySem.Builtin.Bytes.write (.ref a) f) Q E s:=by
  obtain ⟨oc,od,odt,osl⟩:=o
  simp only at hd;subst hd
  show wpAny _ _ (updateBytearray a f) _ _ _
  unfold updateBytearray
  refine wpAny_bind (wpAny_load ho ?_)
  dsimp only
  refine wpAny_bind (wpAny_update ho ?_)
  refine wpAny_lookBehind (o:=Obj.mapBytearray f ⟨oc,od,.bytearray b k,osl⟩) (Heap.get?_update_self _ ho rfl) ?_ hQ
  unfold Obj.mapBytearray Data.pastItsLine
  simp [Nat.not_lt.mpr hz]
theorem n_notHeld {a:Addr} {o:Obj} {b:Array UInt8} {Q:Bool -> Shared -> Prop} (ho:s.heap.get? a = some o) (hd:o.data = .bytearray b 0) (hQ:Q false s) :
    wpN (model prog w) A (PySem.Builtin.Bytes.exported (.ref a) <||> (do return (<- PySem.Builtin.Bytes.exportsOf (.ref a)) > 0)) Q E s:=by
  refine n_bind (n_exported ?_)
  refine n_of ?_
  show wpAny _ _ (do return decide ((<- PySem.Builtin.Bytes.exportsOf (.ref a)) > 0)) _ _ _
  refine wpAny_bind ?_
  unfold PySem.Builtin.Bytes.exportsOf
  refine wpAny_bind (wpAny_load ho ?_)
  rw [hd]
  exact wpAny_pure (wpAny_pure hQ)
theorem n_append {a:Addr} {o:Obj} {b:Array UInt8} {x:Int} {t:Tok} {Q:Value -> Shared -> Prop} (ho:s.heap.get? a = some o) (hc:o.cls = .type "bytearray") (hd:o.data = .bytearray b 0) (h0:0 <= x) (h1:x < 256) (hz:b.size < sizeLine)
    (hQ:Q .none { s with heap:=s.heap.update a (Obj.mapBytearray (·.push x.toNat.toUInt8)) }):wpN (model prog w) A (call (.builtin "bytearray.append") [.ref a,.int x t]) Q E s:=by
  have hT:s.TypeIs (.ref a) "bytearray" := (xI1_1 o ho hc)
  refine n_call (n_call_builtin (ba_ok_append _) ba_slot_append.plain ba_entry_append (fun Q hq=>ba_slot_append.check _ _ _ _ _ _ _ _ hT (ba_args_append _ _) hq) ?_)
  unfold Builtin.«bytearray.append»
  refine n_bind (n_of (wpAny_of_eq (a:=(Value.ref a,Value.int x t)) rfl ?_))
  refine n_bind (n_of ?_)
  unfold PySem.Builtin.Bytes.byteValue
  refine wpAny_bind (wpAny_of_eq (a:=x) rfl ?_)
  dsimp only
  rw [if_neg (by simp;exact oA22 h0 h1)]
  refine wpAny_pure ?_
  refine n_bind ?_
  unfold PySem.Builtin.Bytes.checkResize
  refine n_bind (n_notHeld ho hd ?_)
  refine n_pure ?_
  refine n_bind (n_of (n_write ho hd (by simp only [Array.size_push];exact hz) ?_))
  exact n_pure hQ
theorem n_ba_new {Q:Value -> Shared -> Prop} (hQ:Q (.ref s.heap.objs.size) { s with heap:=s.heap.push { cls:=.type "bytearray",data:=.bytearray #[] } }) :
    codeAny (model prog w) A (.call (.builtin "bytearray.__new__") ⟨[.type "bytearray"],[]⟩) (wants Q E) s:=by
  refine codeAny_of_tree ?_
  show wpAny _ A.in1 (do checkBuiltinCall "bytearray.__new__" ⟨[.type "bytearray"],[]⟩;again (.builtin "bytearray.__new__" ⟨[.type "bytearray"],[]⟩)) _ _ s
  refine wpAny_bind (wpAny_of_eq ba_newCall (wpAny_pure ⟨plainId_quiet ba_plain_new _,codeAny_builtin_stack ba_entry_new rfl fun p st=>?_⟩))
  rw [Around.under_plainId ba_plain_new _]
  have hsub:=ba_sub
  have hown:=ba_owner
  obtain ⟨hp,g,d,tk,os⟩:=s
  simp only [hown]
  wp_walk
  exact hQ
theorem n_init {a:Addr} {o:Obj} {Q:Value -> Shared -> Prop} (ho:s.heap.get? a = some o) (hc:o.cls = .type "bytearray") (hd:o.data = .bytearray #[] 0)
    (hQ:Q .none { s with heap:=s.heap.update a (Obj.mapBytearray fun zz=>#[]) }):wpN (model prog w) A (call (.builtin "bytearray.__init__") [.ref a]) Q E s:=by
  have hT:s.TypeIs (.ref a) "bytearray" := (xI1_1 o ho hc)
  have own2:∀ {A:Around} {Q:Bool -> Shared -> Prop} {E:Value -> Shared -> Prop},Q false s -> wpAny (model prog w) A (Builtin.Bytes.ownRelease (.ref a)) Q E s:=fun hq=>by
    unfold Builtin.Bytes.ownRelease Builtin.Bytes.slotIsOwn
    refine xA1_1 ba_release ?_;(try clear ba_release);intro r hr h
    rcases h with rfl | rfl
    · exact wpAny_bind (wpAny_bind (wpAny_specialOf hT hr (wpAny_pure (wpAny_pure hq))))
    · refine wpAny_bind (wpAny_bind (wpAny_specialOf hT hr ?_))
      dsimp only
      refine bm_if_false (by decide +kernel) ?_
      rw [ba_cut2]
      exact wpAny_isInstance hT ba_sub (wpAny_pure hq)
  refine n_call (n_call_builtin (ba_ok_init _) ba_slot_init.plain ba_entry_init (fun Q hq=>ba_slot_init.check _ _ _ _ _ _ _ _ hT (ba_args_init _) hq) ?_)
  unfold Builtin.«bytearray.__init__»
  refine n_bind (n_of (own2 ?_))
  dsimp only
  rw [if_neg (by decide)]
  refine n_bind (n_of (wpAny_of_eq ba_bind ?_))
  dsimp only
  refine n_bind (n_of (wpAny_of_eq (a:=()) rfl ?_))
  refine n_bind (n_of (wpAny_of_eq (a:=()) rfl ?_))
  refine n_bind (n_notHeld ho hd ?_)
  rw [if_neg (by decide)]
  refine n_bind (n_of (n_write ho hd (by decide) ?_))
  refine n_bind (n_of (wpAny_of_eq (a:=()) rfl ?_))
  exact n_pure hQ
theorem n_bytearray {Q:Value -> Shared -> Prop} (hQ:∀ h',h'.get? s.heap.objs.size = some { cls:=.type "bytearray",data:=.bytearray #[] } -> (∀ b y,s.heap.get? b = some y -> h'.get? b = some y) -> Q (.ref s.heap.objs.size) { s with heap:=h' }) :
    wpN (model prog w) A (call (.type "bytearray") []) Q E s:=by
  have ft:=ba_called
  refine xA2_0 ft.mro ?_;intro c tl hmro
  have hmade:=ft.made
  have hsub:=ft.sub
  have hct:=ba_typeCall
  refine n_call (codeN_of_tree rfl ?_)
  show wpN _ _ (callAny (.type "bytearray") _) _ _ _
  refine n_pure ⟨Code.quiet_builtin _ (by decide +kernel),n_builtin0 (ok_type_call _) F.entry_type_call ?_⟩
  rw [Around.under_plain (weight_type_call_type "bytearray" [] []) rfl]
  have h1:=ft.notType
  have h2:=ft.canCreate
  unfold Builtin.«type.__call__»
  simp only [h1,h2,Bool.false_eq_true,if_false]
  refine n_bind (n_of (wpAny_of_eq hct ?_))
  refine n_bind (n_of (wpAny_of_eq hmro ?_))
  simp only [List.isEmpty_cons,Bool.false_eq_true,if_false]
  refine n_bind (n_of (wpAny_of_eq hmade ?_))
  dsimp only
  refine n_bind (n_pure ?_)
  refine n_bind (n_holding (n_of (wpAny_call (codeAny_mono (n_ba_new (E:=E) (Q:=fun v s'=>v = .ref s.heap.objs.size /\ s' = { s with heap:=s.heap.push { cls:=.type "bytearray",data:=.bytearray #[] } }) ⟨rfl,rfl⟩) fun r s' hr=>?_))))
  cases r with
  | error e => exact hr
  | ok fl =>
    cases fl with
    | ret v =>
      refine xA0_1 hr ?_;(try clear hr);intro hT1;subst hT1;intro hT2;subst hT2
      have g0:(s.heap.push { cls:=.type "bytearray",data:=.bytearray #[] }).get? s.heap.objs.size = some { cls:=.type "bytearray",data:=.bytearray #[] }:=Heap.get?_push_size _ rfl
      have hT:Shared.TypeIs { s with heap:=s.heap.push { cls:=.type "bytearray",data:=.bytearray #[] } } (.ref s.heap.objs.size) "bytearray" := (xI1_1 _ g0 rfl)
      refine n_bind (n_of (wpAny_isInstance hT hsub ?_))
      simp only [Bool.not_true,Bool.false_eq_true,if_false]
      refine n_bind (n_holding ?_)
      unfold callSpecial?
      refine n_bind (n_of (wpAny_specialOf hT ba_slot_init.lookup ?_))
      dsimp only
      refine n_holding (n_bind (n_of (wpAny_of_eq (ba_slot_init.bind _) ?_)))
      refine n_bind (n_mono (n_init g0 rfl rfl (Q:=fun v s'=>v = .none /\ s' = _) ⟨rfl,rfl⟩) (fun v s' hF1=>xA0_1 hF1 fun e1 e2=>?_) fun zz zz e=>e)
      subst e1;subst e2
      refine n_pure ?_
      dsimp only
      rw [if_neg (by decide)]
      refine n_pure (hQ _ ?_ ?_)
      · rw [Heap.get?_update_self _ g0 rfl];rfl
      · intro b y e
        exact Heap.get?_update_of_ne _ (Nat.ne_of_gt (Heap.lt_size e)) (Heap.get?_push_of_some _ e)
    | _ => exact hr.elim
end
section
variable {G:Gl} {c:Cx} {n:Nat}
theorem n_keep {α:Type} {M:Model} {A:Around} {E:Value -> Shared -> Prop} {s:Shared} {vs:List Value} {m:Sem α} {Q:α -> Shared -> Prop} (h:wpN M A m Q E s):wpN M A (m.keep vs) Q E s :=
  fun Γ p hΓ hC=>by rw [Sem.wp_keep];exact h Γ p hΓ hC
noncomputable def NE (G:Gl) (c:Cx) (n:Nat) (e:Expr) (w:WE):Prop :=
  ∀ A o s H ls Q X,AOk n c A -> St G c o H ls s -> w ls Q X H -> wpN (model G.prog G.w) A (eval e c.env) (RV G c o ls Q) (PX G c o ls X) s
noncomputable def NS (G:Gl) (c:Cx) (n:Nat) (st:Stmt) (w:WS):Prop :=
  ∀ A o s H ls Qn Qr X,AOk n c A -> St G c o H ls s -> w ls Qn Qr X H -> wpN (model G.prog G.w) A (exec st c.env) (RF G c o Qn Qr) (PXs G c o X) s
noncomputable def NB (G:Gl) (c:Cx) (n:Nat) (b:List Stmt) (w:WS):Prop :=
  ∀ A o s H ls Qn Qr X,AOk n c A -> St G c o H ls s -> w ls Qn Qr X H -> wpN (model G.prog G.w) A (execs b c.env) (RF G c o Qn Qr) (PXs G c o X) s
noncomputable def NX (G:Gl) (c:Cx) (n:Nat) (b:List Stmt) (w:WS):Prop :=
  ∀ A o s H ls Qn Qr X,AOk n c A -> St G c o H ls s -> w ls Qn Qr X H -> wpN (model G.prog G.w) A (execs b c.env) (RF G c o Qn Qr) (PX G c o ls X) s
noncomputable def CallN (G:Gl) (c:Cx) (n:Nat) (f:Value) (w:List V -> WV):Prop :=
  ∀ A o s H ls Q X (args:List Value),AOk n c A -> St G c o H ls s -> w (args.map er) Q X H -> wpN (model G.prog G.w) A (call f args) (RV G c o ls Q) (PX G c o ls X) s
noncomputable def FnN (G:Gl) (n:Nat) (f:Value) (w:List V -> WV):Prop :=
  ∀ c A o s H ls Q X (args:List Value),CxOk G c -> AOk n c A -> St G c o H ls s -> w (args.map er) Q X H -> codeN (model G.prog G.w) A (.call f ⟨args,[]⟩) (RC G c o ls Q X) s
theorem ne_of {e:Expr} {w:WE} (h:SE G c n e w):NE G c n e w:=fun A o s H ls Q X hA hs hw=>n_of (h A o s H ls Q X hA hs hw)
theorem ns_of {st:Stmt} {w:WS} (h:SS G c n st w):NS G c n st w:=fun A o s H ls Qn Qr X hA hs hw=>n_of (h A o s H ls Qn Qr X hA hs hw)
theorem nb_of {b:List Stmt} {w:WS} (h:SB G c n b w):NB G c n b w:=fun A o s H ls Qn Qr X hA hs hw=>n_of (h A o s H ls Qn Qr X hA hs hw)
theorem FnN.call {m:Nat} {f:Value} {w:List V -> WV} (h:FnN G n f w) (hn:n <= m) (C:CxOk G c):CallN G c m f w:=fun A o s H ls Q X args hA hs hw =>
  n_call (codeN_mono (h c A o s H ls Q X args C (hA.le hn) hs hw) fun r s' hr=>by
    cases r with
    | error e => exact hr
    | ok fl => cases fl <;> exact hr)
theorem nb_one {st:Stmt} {w:WS} (h:NS G c n st w):NB G c n [st] w:=fun A o s H ls Qn Qr X hA hs hw=>by
  rw [execs_cons]
  refine n_bind (n_mono (h A o s H ls Qn Qr X hA hs hw) (fun f s' hf=>?_) fun zz zz e=>e)
  cases f with
  | next => exact n_of (wpAny_execs_nil hf)
  | ret v => exact n_pure hf
  | brk => exact hf.elim
  | cont => exact hf.elim
theorem nb_cons {st:Stmt} {b:List Stmt} {w1 w2:WS} (h:NS G c n st w1) (h2:NB G c n b w2):NB G c n (st :: b) (sSeq w1 w2):=fun A o s H ls Qn Qr X hA hs hw=>by
  rw [execs_cons]
  refine n_bind (n_mono (h A o s H ls _ Qr X hA hs hw) (fun f s' hf=>?_) fun zz zz e=>e)
  cases f with
  | next => obtain ⟨ls',H',hs',h'⟩ := hf;exact h2 A o s' H' ls' Qn Qr X hA hs' h'
  | ret v => exact n_pure hf
  | brk => exact hf.elim
  | cont => exact hf.elim
theorem n_ret {e:Expr} {pos:Pos} {w:WE} (h:NE G c n e w):NS G c n (.Return (some e) pos) (sRet w):=fun A o s H ls Qn Qr X hA hs hw=>by
  rw [exec_Return_some]
  exact n_bind (n_standAt (n_bind (n_mono (h A o s H ls Qr X hA hs hw) (fun v s1 hF1=>xA1_1 hF1 fun H1 hs1 h1=>n_pure (xI2_1 ls H1 hs1 h1)) fun zz zz e=>⟨ls,e⟩)))
theorem nx_ret {e:Expr} {pos:Pos} {w:WE} (h:NE G c n e w):NX G c n [.Return (some e) pos] (sRet w):=fun A o s H ls Qn Qr X hA hs hw=>by
  rw [execs_cons,exec_Return_some]
  exact n_bind (n_bind (n_standAt (n_bind (n_mono (h A o s H ls Qr X hA hs hw) (fun v s1 hF1=>xA1_1 hF1 fun H1 hs1 h1=>n_pure (n_pure (xI2_1 ls H1 hs1 h1))) fun zz zz e=>e))))
theorem n_cmpL {op:CmpOp} {f:W2} {l r:Expr} {pos:Pos} {a b:WE} (hf:S2 G c n (compareOp op) f) (ha:NE G c n l a) (hb:SE G c n r b) (hm:behindInMarks op r = false:=by with_unfolding_all rfl):NE G c n (.Compare l [op] [r] pos) (wBin f a b):=fun A o s H ls Q X hA hs h=>by
  rw [eval_Compare1,markedBehindIn_of_false hm]
  refine n_bind (n_mono (ha A o s H ls _ X hA hs h) (fun x s1 hF1=>xA1_1 hF1 fun H1 hs1 h1=>?_) fun zz zz e=>e)
  refine n_bind (n_holding (n_mono (n_of (hb A o s1 H1 ls _ X hA hs1 h1)) (fun y s2 hF1=>xA1_1 hF1 fun H2 hs2 h2=>?_) fun zz zz e=>e))
  exact n_bind (n_standAt (n_operate (n_of (hf A o s2 H2 ls Q X x y hA hs2 h2))))
theorem callN_by (GO:GlOk G) {f:Value} {first:List Value} {pos:Pos} {trees:List (Bool × Sem Value)} {A:Around} {s:Shared} {Q:Value -> Shared -> Prop} {E:Value -> Shared -> Prop} (hf:Callee G f) (hp:trees.any (·.1) = false)
    (h:wpAny (model G.prog G.w) A (evalArgs f true trees []) (fun a s₁=>a.kw = [] /\ G.h₀.StaysIn s₁.heap /\ wpN (model G.prog G.w) A (call f (first ++ a.pos) []) Q E s₁) E s) :
    wpN (model G.prog G.w) A (callWith pos f first trees []) Q E s:=by
  unfold callWith
  refine n_bind (n_holding (n_mono (n_of h) (fun a s₁ hF1=>xA0_2 hF1 fun h1 h2 h3=>n_bind (n_standAt ?_)) fun zz zz e=>e))
  have tail:∀ {t:Sem Value},wpN (model G.prog G.w) A t Q E s₁ -> wpN (model G.prog G.w) A (t >>= fun r=>holding [r] point >>= fun zz=>pure r) Q E s₁ :=
    fun ht=>n_bind (n_mono ht (fun r s₂ hr=>n_bind (n_holding (n_point (n_pure hr)))) fun zz zz e=>e)
  rw [h1]
  simp only [hp,List.any_nil,Bool.or_false]
  cases hf with
  | ref b hk =>
    obtain ⟨k,hk',L⟩:=keeps_K hk _ (GO.kin.keeps h2)
    refine n_bind (n_of (L.here ?_))
    have marked (mk:Value):wpN (model G.prog G.w) A (callMarked mk (.ref b) (first ++ a.pos) []) Q E s₁:=by
      exact n_keep h3
    rcases hk' with rfl | rfl | rfl <;> dsimp only <;> first | exact tail h3 | (split <;> first | exact tail h3 | exact tail (marked _))
  | blt id =>
    refine n_bind (n_pure ?_)
    exact tail h3
  | type id =>
    refine n_bind (n_pure ?_)
    exact tail h3
end
section
variable {prog:Program} {w:World} {A:Around} {s:Shared} {R:Result -> Shared -> Prop}
theorem codeN_func {body:List Stmt} {env:Env}
    (h:wpN (model prog w) (A.deeper env) (execs body env) (fun f s'=>R (.ok (.ret (match f with | .ret v=>v | _=>.none))) s')
      (fun e s'=>wpN (model prog w) (A.deeper env) (leaving env e) (fun zz s''=>R (.error e) s'') (fun e' s''=>R (.error e') s'') s') s):codeN (model prog w) A (.func body env) R s:=by
  refine codeN_of_tree rfl ?_
  show wpN _ (A.deeper env) (do point;match <- (execs body env).onRaise (leaving env) with | .ret v=>ret v | _=>ret .none) _ _ s
  refine n_bind (n_point (n_bind (n_onRaise (n_mono h (fun f s' h'=>?_) fun zz zz h'=>h'))))
  cases f <;> exact n_pure h'
theorem codeN_call_def {a:Addr} {o:Obj} {fd:FuncData} {body:List Stmt} {args:Args} {binds:List (Str × Value)}
    (hroom:A.depth < recursionLimit) (ho:s.heap.get? a = some o) (hdata:o.data = .func fd) (hlim:s.heap.NoLimit) (hcd:s.heap.CodeRec fd.code fd.qualname)
    (hbody:fd.body = .stmts body) (hbind:BindsTo s fd args binds) (hcell:∀ x ∈ fd.scope.names,x.2 ≠ .cell) (hloc:∀ x ∈ binds,fd.scope.names.lookup x.1 = some .local)
    (h:∀ h₀,h₀.Ns s.heap.objs.size (fun x=>binds.reverse.lookup x) -> (∀ b o,s.heap.get? b = some o -> h₀.get? b = some o) ->
      wpN (model prog w) (A.deeper (callEnv fd s.heap.objs.size a)) (execs body (callEnv fd s.heap.objs.size a)) (fun f s'=>R (.ok (.ret (match f with | .ret v=>v | _=>.none))) s')
        (fun e s'=>wpN (model prog w) (A.deeper (callEnv fd s.heap.objs.size a)) (leaving (callEnv fd s.heap.objs.size a) e) (fun zz s''=>R (.error e) s'') (fun e' s''=>R (.error e') s'') s')
        { s with heap:=h₀,toks:=s.toks + binds.length })
    (hco:fd.scope.isCoroutine = false) (hgen:fd.scope.isGenerator = false) (hk:fd.scope.kind = .function):codeN (model prog w) A (.call (.ref a) args) R s:=by
  refine codeN_of_tree rfl ?_
  show wpN _ A.in1 (callAny (.ref a) args) _ _ s
  simp only [callAny]
  refine n_bind (n_of (wpAny_load ho ?_))
  refine xA4_3 hcd ?_;(try clear hcd);intro c oc vs tq hc hoc hdc hq
  simp only [hdata,callFunction,hco,hgen,hbody,hc]
  have hbind':=hbind
  refine n_bind (m:=field (.ref c) 1) (n_of (wpAny_field hoc hdc hq (n_bind (n_pure ?_))))
  refine n_bind (n_of (hbind _ _ _ _ ?_))
  refine n_bind (n_of (wpAny_newFunctionEnv hcell hloc (fun h₀ hns₀ hsb₀=>?_) hk))
  refine n_bind (n_of (wpAny_enterFrame (hlim.fresh _ hsb₀) hroom (n_pure (And.intro rfl ?_))))
  have:=codeN_func (R:=R) (h h₀ hns₀ fun b o e=>hsb₀.extBut b o (Nat.ne_of_lt (Heap.lt_size e)) (Heap.get?_push_of_some _ e))
  unfold callEnv at this
  rw [hc] at this
  exact this
end
section
variable {G:Gl}
theorem n_body_ends {n:Nat} {c c':Cx} {A:Around} {o o':Org} {H:MH} {ls:List V} {s:Shared} {Q:QV} {X:XP} (C:CxOk G c) (C':CxOk G c') (hA:AOk (n + 1) c A) (x:St G c o H ls s) (hk:∀ b y,s.heap.get? b = some y -> o'.h.get? b = some y) (ho':o'.H = H)
    {L:Addr} (hL:s.heap.get? L = none) (hst:c'.stack = c'.env :: c.stack) (hLe:c'.env.frame = some L) (hown':∀ b ∈ c'.own,s.heap.get? b = none) {body:List Stmt} {s₁:Shared}
    (h:wpN (model G.prog G.w) (A.deeper c'.env) (execs body c'.env) (RF G c' o' (fun zz H'=>Q .none H') Q) (PXs G c' o' X) s₁) :
    wpN (model G.prog G.w) (A.deeper c'.env) (execs body c'.env) (fun f s'=>RC G c o ls Q X (.ok (.ret (match f with | .ret v=>v | _=>.none))) s')
      (fun e s'=>wpN (model G.prog G.w) (A.deeper c'.env) (leaving c'.env e) (fun zz s''=>RC G c o ls Q X (.error e) s'') (fun e' s''=>RC G c o ls Q X (.error e') s'') s') s₁:=by
  have hfrm:c'.frames = L :: c.frames:=by unfold Cx.frames;rw [hst,List.filterMap_cons,hLe]
  have hfr:∀ b ∈ c.frames,b ∈ c'.frames /\ b ∉ c'.own:=fun b hb=>⟨by rw [hfrm];exact .tail _ hb,fun q=>by
    refine xA0_1 (funFrames_mem x.fr hb) ?_;intro _ hT1;refine xA1_1 hT1 ?_;(try clear hT1);intro ob e _
    rw [hown' b q] at e;cases e⟩
  have hfr':∀ b ∈ c'.frames,b ∈ c.frames ∨ s.heap.get? b = none:=fun b hb=>by
    rw [hfrm] at hb
    rcases List.mem_cons.mp hb with rfl | hb
    · exact .inr hL
    · exact .inl hb
  have tl:∀ {h:Heap},h.FunFrames G.h₀ c'.stack -> h.FunFrames G.h₀ c.stack:=fun h=>by rw [hst] at h;exact h.2.2
  refine n_mono h (fun f s' hf=>?_) fun e s' hx=>?_
  · cases f with
    | next => obtain ⟨ls',H',hs',hq⟩ := hf;exact (xI1_1 H' (x.back C hk ho' hfr hfr' hown' tl hs') hq)
    | ret v => obtain ⟨ls',H',hs',hq⟩ := hf;exact (xI1_1 H' (x.back C hk ho' hfr hfr' hown' tl hs') hq)
    | brk => exact hf.elim
    | cont => exact hf.elim
  · refine xA4_3 hx ?_;(try clear hx);intro ls' ea Cl H' hT1;subst hT1;intro hs' hX hfl
    have hA':(A.deeper c'.env).frames = some c'.stack:=by rw [hst];exact Around.frames_deeper hA.1
    refine n_of (wpAny_mono (leave_ok C' hA' hst hLe hs' hfl) (fun zz s'' hF1=>xA0_1 hF1 fun hs'' hfl''=>?_) fun zz zz e=>e)
    refine (xI3_3 ea Cl H' rfl (x.back C hk ho' hfr hfr' hown' tl hs'') hX ?_)
    refine xA6_10 hfl'' ?_;(try clear hfl'');intro oe vs a0 T oT ts h1 h2 h3 h4 h5 h6 h7 h8 h9 h10 h11
    exact (xI3_5 oe vs a0 h1 h2 h3 h4 (New.back x hk (fun b hb=>(hfr b hb).1) h5) (.inr (xI3_5 T oT ts h6 h7 (New.back x hk (fun b hb=>(hfr b hb).1) h8) h9 h10 (.inl h11))))
theorem n_fn (GO:GlOk G) {fa:Addr} {name qual:Str} {params:Arguments} {body:List Stmt} {scope:Scope} {dV kV doc pm:Value} {an:Option Addr} {cdv ct:Value} (F:FnRec G fa name qual params body scope dV kV doc pm an cdv ct)
    {names:List Str} {k m n:Nat} {wb:WS} {w:List V -> WV} (hcell:∀ x ∈ scope.names,x.2 ≠ .cell) (hnd:names.Nodup) (hlen:names.length = k + m) (hall:∀ x ∈ names,scope.names.lookup x = some .local)
    (hbind:∀ (s:Shared) args Q X H,G.h₀.StaysIn s.heap -> w (args.map er) Q X H -> ∃ vals,vals.length = k /\ BindsTo s (fnX name qual params body scope [] dV kV doc pm an cdv ct) ⟨args,[]⟩ (names.zip vals) /\ fnW wb m (vals.map er) Q X H)
    (hb:∀ L st,CxOk G (cxP qual scope fa cdv names L st) -> NB G (cxP qual scope fa cdv names L st) n body wb)
    (hco:scope.isCoroutine = false:=by rfl) (hgen:scope.isGenerator = false:=by rfl) (hk:scope.kind = .function:=by rfl):FnN G (n + 1) (.ref fa) w:=by
  intro c A o s H ls Q X args C hA hs hw
  refine xA3_0 F.obj ?_;intro oc od sl ho
  refine xA1_2 (hbind s args Q X H hs.base hw) ?_;intro vals hv hbi hfn
  have hroom:A.depth < recursionLimit:=by have:=hA.2.2.1;show A.depth < 1000;exact oA183 this
  refine codeN_call_def hroom (hs.base _ _ ho) rfl (GO.nolimit.keeps hs.base) (F.code.keeps hs.base) rfl hbi hcell (fun x hx=>hall x.1 (List.of_mem_zip hx).1) (fun h₁ hns hk₁=>?_) hco hgen hk
  have hLs:s.heap.get? s.heap.objs.size = none:=by
    cases q:s.heap.get? s.heap.objs.size with
    | none => rfl
    | some y => exact absurd (Heap.lt_size q) (Nat.lt_irrefl _)
  refine xA0_5 (hs.fresh hLs) ?_;intro f1 f2 f3 f4 f5 f6
  have C':CxOk G (cxP qual scope fa cdv names s.heap.objs.size c.stack):=cxP_ok hnd hcell hk f3
  have hnow:∀ b y,s.heap.get? b = some y -> b ≠ s.heap.objs.size:=fun b y e q=>by rw [q,hLs] at e;cases e
  refine xA3_3 (id hns) ?_;intro ol es ep n1 n2 n3 n4
  have s':St G (cxP qual scope fa cdv names s.heap.objs.size c.stack) ⟨H,h₁⟩ H (vals.map er ++ List.replicate m .unb) { s with heap:=h₁,toks:=s.toks + (names.zip vals).length }:=by
    refine ⟨hs.gens,hs.os,fun b y e=>hk₁ b y (hs.base b y e),fun a mm e=>?_,fun a ha=>?_,fun x ca e=>(nomatch e),hs.tab.keeps hk₁,⟨⟨_,hns,fun i x v hi zz hv' hne=>?_⟩,fun i x hi hx=>?_⟩,?_,⟨fun b y e zz zz zz zz=>e,fun b y e zz zz=>⟨y.slots,e⟩,fun b y zz e=>e,fun b y e=>⟨y,e⟩⟩⟩
    · refine xA0_4 (hs.own a mm e) ?_;intro h1 h2 h3 h4 hT1;refine xA1_1 hT1 ?_;(try clear hT1);intro ob h5 h6
      have hne:=hnow a ob h5
      exact (xI0_4 h1 h2 (fun q=>hne (List.mem_singleton.mp q)) (fun q=>(List.mem_cons.mp q).elim hne h4) (xI1_1 ob (hk₁ _ _ h5) h6))
    · rw [List.mem_singleton.mp ha]
      exact ⟨f2,⟨ ol,n1⟩⟩
    · refine xA0_1 (len_ls hv hv' hne) ?_;intro hi' hT1;refine xA1_1 hT1 ?_;(try clear hT1);intro u h1 h2
      exact (xI1_1 u (lookup_zip hnd hi h1) h2)
    · exact (hx (hall x (List.mem_of_getElem? hi))).elim
    · exact Heap.FunFrames.cons (by show scope.kind ≠ _;rw [hk];decide) rfl hns f2 (hs.fr.of_keeps fun b y e zz=>(xI1_1 y (hk₁ b y e) rfl))
  have:=hb s.heap.objs.size c.stack C' (A.deeper (cxP qual scope fa cdv names s.heap.objs.size c.stack).env) ⟨H,h₁⟩ _ H _ (fun zz H'=>Q .none H') Q X (hA.deep rfl) s' hfn
  exact n_body_ends (o':=⟨H,h₁⟩) C C' hA hs hk₁ rfl hLs rfl rfl (fun b hb=>by rw [List.mem_singleton.mp hb];exact hLs) this
end
section
variable {prog:Program} {w:World} {A:Around} {s:Shared} {R:Result -> Shared -> Prop}
theorem codeN_call_cells {a:Addr} {o:Obj} {fd:FuncData} {body:List Stmt} {vals:List Value} {binds:List (Str × Value)}
    (hroom:A.depth < recursionLimit) (ho:s.heap.get? a = some o) (hdata:o.data = .func fd) (hlim:s.heap.NoLimit) (hcd:s.heap.CodeRec fd.code fd.qualname)
    (hbody:fd.body = .stmts body) (hbind:bindArgs fd ⟨vals,[]⟩ = pure binds) (hclo:fd.closure = [])
    (hkind:∀ x ∈ binds,fd.scope.names.lookup x.1 = some .local ∨ (fd.scope.names.lookup x.1 = some .cell /\ ((cellsFrom (s.heap.objs.size + 1) fd.scope.names []).lookup x.1).isSome = true))
    (h:∀ s₁,InCallC s (callEnvC fd s.heap.objs.size a).locals (bindL (callEnvC fd s.heap.objs.size a).kindOf binds fun zz=>none) (callEnvC fd s.heap.objs.size a).cells
        (bindC (callEnvC fd s.heap.objs.size a).kindOf binds fun zz=>none) s₁ ->
      wpN (model prog w) (A.deeper (callEnvC fd s.heap.objs.size a)) (execs body (callEnvC fd s.heap.objs.size a)) (fun f s'=>R (.ok (.ret (match f with | .ret v=>v | _=>.none))) s')
        (fun e s'=>wpN (model prog w) (A.deeper (callEnvC fd s.heap.objs.size a)) (leaving (callEnvC fd s.heap.objs.size a) e) (fun zz s''=>R (.error e) s'') (fun e' s''=>R (.error e') s'') s') s₁)
    (hco:fd.scope.isCoroutine = false) (hgen:fd.scope.isGenerator = false) (hk:fd.scope.kind = .function):codeN (model prog w) A (.call (.ref a) ⟨vals,[]⟩) R s:=by
  refine codeN_of_tree rfl ?_
  show wpN _ A.in1 (callAny (.ref a) ⟨vals,[]⟩) _ _ s
  simp only [callAny]
  refine n_bind (n_of (wpAny_load ho ?_))
  refine xA4_3 hcd ?_;(try clear hcd);intro c oc vs tq hc hoc hdc hq
  simp only [hdata,callFunction,hco,hgen,hbody,hc]
  refine n_bind (m:=field (.ref c) 1) (n_of (wpAny_field hoc hdc hq (n_bind (n_pure ?_))))
  rw [hbind]
  refine n_bind (n_pure ?_)
  rw [hclo]
  refine n_bind (n_of (wpAny_newFunctionEnv_cells hk hkind fun env he s' x=>?_))
  subst he
  refine n_bind (n_of (wpAny_enterFrame (hlim.keeps x.toInCall.keep) hroom (n_pure (And.intro rfl ?_))))
  unfold callEnvC at h
  rw [hc] at h
  exact codeN_func (R:=R) (h s' x)
end
section
variable {G:Gl}
theorem n_fnC (GO:GlOk G) {fa:Addr} {name qual:Str} {params:Arguments} {body:List Stmt} {scope:Scope} {dV kV doc pm:Value} {an:Option Addr} {cdv ct:Value} (F:FnRec G fa name qual params body scope dV kV doc pm an cdv ct)
    {names:List Str} {k m n:Nat} {wb:WS} {w:List V -> WV} (hnd:names.Nodup) (hlen:names.length = k + m) (hall:∀ x ∈ names,scope.names.lookup x = some .local ∨ scope.names.lookup x = some .cell)
    (hcn:((cellsFrom 0 scope.names []).map (·.1)).Nodup)
    (hbind:∀ args Q X H,w (args.map er) Q X H -> ∃ vals,vals.length = k /\ bindArgs (fnX name qual params body scope [] dV kV doc pm an cdv ct) ⟨args,[]⟩ = pure (names.zip vals) /\ fnW wb m (vals.map er) Q X H)
    (hb:∀ L st,CxOk G (cxC qual scope fa cdv names L st) -> NB G (cxC qual scope fa cdv names L st) n body wb)
    (hco:scope.isCoroutine = false:=by rfl) (hgen:scope.isGenerator = false:=by rfl) (hk:scope.kind = .function:=by rfl):FnN G (n + 1) (.ref fa) w:=by
  intro c A o s H ls Q X args C hA hs hw
  refine xA3_0 F.obj ?_;intro oc od sl ho
  refine xA1_2 (hbind args Q X H hw) ?_;intro vals hv hbi hfn
  have hroom:A.depth < recursionLimit:=by have:=hA.2.2.1;show A.depth < 1000;exact oA183 this
  have fresh:∀ b,s.heap.objs.size <= b -> s.heap.get? b = none:=fun b hb=>by
    cases q:s.heap.get? b with
    | none => rfl
    | some y => exact absurd (Heap.lt_size q) (Nat.not_lt.mpr hb)
  have hkind:∀ x ∈ names.zip vals,scope.names.lookup x.1 = some .local ∨ (scope.names.lookup x.1 = some .cell /\ ((cellsFrom (s.heap.objs.size + 1) scope.names []).lookup x.1).isSome = true):=fun x hx=>by
    rcases hall x.1 (List.of_mem_zip hx).1 with h | h
    · exact .inl h
    · exact .inr ⟨h,cellsFrom_some _ _ _ (.inl h)⟩
  refine codeN_call_cells hroom (hs.base _ _ ho) rfl (GO.nolimit.keeps hs.base) (F.code.keeps hs.base) rfl hbi rfl hkind (fun s₁ x=>?_) hco hgen hk
  refine xA2_1 x.done ?_;intro h₁ tk hT1;subst hT1;intro hk₁
  have hns:=x.toInCall.ns
  have hcell:=x.cell
  have habove:=x.above
  have hapart:=x.apart
  have hcnL:((cellsFrom (s.heap.objs.size + 1) scope.names []).map (·.1)).Nodup:=cellsFrom_names scope.names 0 (s.heap.objs.size + 1) [] [] rfl ▸ hcn
  have hLs:s.heap.get? s.heap.objs.size = none:=fresh _ (Nat.le_refl _)
  refine xA0_5 (hs.fresh hLs) ?_;intro f1 f2 f3 f4 f5 f6
  have hnow:∀ b y,s.heap.get? b = some y -> b < s.heap.objs.size:=fun b y e=>Heap.lt_size e
  have hown:∀ b ∈ (cxC qual scope fa cdv names s.heap.objs.size c.stack).own,s.heap.objs.size <= b:=fun b hb=>by
    rcases List.mem_cons.mp hb with rfl | hb
    · exact Nat.le_refl _
    · refine xA1_1 (List.mem_map.mp hb) ?_;intro p hp hT1;subst hT1
      exact Nat.le_of_lt (habove p.1 p.2 hp)
  have hfrout:∀ b ∈ c.frames,b < s.heap.objs.size:=fun b hb=>by
    refine xA0_1 (funFrames_mem hs.fr hb) ?_;intro _ hT1;refine xA1_1 hT1 ?_;(try clear hT1);intro ob e _
    exact Heap.lt_size e
  have C':CxOk G (cxC qual scope fa cdv names s.heap.objs.size c.stack):=by
    refine ⟨hk,rfl,rfl,hnd,.head _,fun x ca zz h=>?_,fun x y ca h1 h2=>name_of_addr hapart (mem_of_lookup h1) (mem_of_lookup h2),(xI1_1 _ rfl (xI2_1 _ _ rfl rfl)),fun q=>?_⟩
    · have hm:=mem_of_lookup h
      have hlt:=habove x ca hm
      refine ⟨.tail _ (List.mem_map_of_mem (f:=(·.2)) hm),Nat.ne_of_gt hlt,fun q=>?_⟩
      rcases List.mem_cons.mp q with q | q
      · exact Nat.ne_of_gt hlt q
      · exact Nat.lt_irrefl _ (Nat.lt_trans hlt (hfrout ca q))
    · have:=fresh _ (hown _ q)
      refine xA1_1 hs.tab ?_;intro ps hP _
      rw [hP] at this;cases this
  refine xA3_3 (id hns) ?_;intro ol es ep n1 n2 n3 n4
  have kz:((names.zip vals).map (·.1)).Nodup:=List.Pairwise.sublist (fst_zip_sub names vals) hnd
  have s':St G (cxC qual scope fa cdv names s.heap.objs.size c.stack) ⟨H,h₁⟩ H (vals.map er ++ List.replicate m .unb) { s with heap:=h₁,toks:=tk }:=by
    refine ⟨hs.gens,hs.os,fun b y e=>hk₁ b y (hs.base b y e),fun a mm e=>?_,fun a ha=>?_,fun x ca e=>?_,hs.tab.keeps hk₁,⟨(xI1_1 _ hns (fun i x v hi hkx hv' hne=>?_)),fun i x hi hx=>?_⟩,?_,⟨fun b y e zz zz zz zz=>e,fun b y e zz zz=>⟨y.slots,e⟩,fun b y zz e=>e,fun b y e=>⟨y,e⟩⟩⟩
    · refine xA0_4 (hs.own a mm e) ?_;intro h1 h2 h3 h4 hT1;refine xA1_1 hT1 ?_;(try clear hT1);intro ob h5 h6
      have hlt:=hnow a ob h5
      exact (xI0_4 h1 h2 (fun q=>Nat.not_lt.mpr (hown a q) hlt) (fun q=>(List.mem_cons.mp q).elim (Nat.ne_of_lt hlt) h4) (xI1_1 ob (hk₁ _ _ h5) h6))
    · refine ⟨none_of_keeps hs.base (fresh a (hown a ha)),?_⟩
      rcases List.mem_cons.mp ha with rfl | ha
      · exact ⟨ol,n1⟩
      · refine xA1_1 (List.mem_map.mp ha) ?_;intro p hp hT1;subst hT1
        refine xA1_1 (hcell p.1 p.2 (lookup_mem hcnL hp)) ?_;intro oc h1 _
        exact ⟨oc,h1⟩
    · refine xA1_1 (hcell x ca e) ?_;intro oc h1 _
      refine ⟨?_,⟨ oc,h1⟩⟩
      exact (hs.fresh (fresh ca (Nat.le_of_lt (habove x ca (mem_of_lookup e))))).1
    · refine xA0_1 (len_ls hv hv' hne) ?_;intro hi' hT1;refine xA1_1 hT1 ?_;(try clear hT1);intro u h1 h2
      exact (xI1_1 u (bindL_mem hkx _ _ kz (zip_mem hi h1)) h2)
    · have hc:scope.names.lookup x = some .cell:=(hall x (List.mem_of_getElem? hi)).elim (fun h=>(hx h).elim) id
      refine xA1_0 (Option.isSome_iff_exists.mp (cellsFrom_some scope.names (s.heap.objs.size + 1) [] (.inl hc))) ?_;intro ca hca
      refine (xI2_2 ca _ hca (hcell x ca hca) (fun v hv' hne=>?_))
      refine xA0_1 (len_ls hv hv' hne) ?_;intro hi' hT1;refine xA1_1 hT1 ?_;(try clear hT1);intro u h1 h2
      exact (xI1_1 u (bindC_mem hx _ _ kz (zip_mem hi h1)) h2)
    · exact Heap.FunFrames.cons (by show scope.kind ≠ _;rw [hk];decide) rfl hns f2 (hs.fr.of_keeps fun b y e zz=>(xI1_1 y (hk₁ b y e) rfl))
  have:=hb s.heap.objs.size c.stack C' (A.deeper (cxC qual scope fa cdv names s.heap.objs.size c.stack).env) ⟨H,h₁⟩ _ H _ (fun zz H'=>Q .none H') Q X (hA.deep rfl) s' hfn
  exact n_body_ends (o':=⟨H,h₁⟩) C C' hA hs hk₁ rfl hLs rfl rfl (fun b hb=>fresh b (hown b hb)) this
end
section
variable {G:Gl} {c:Cx} {n:Nat}
theorem callN_with (GO:GlOk G) {f:Value} {first:List Value} {w:List V -> WV} {l:WL} {es:List Expr} {pos:Pos} {A:Around} {o:Org} {s:Shared} {H:MH} {ls:List V} {Q:QV} {X:XP} (hf:Callee G f) (hw:CallN G c n f w) (hl:SEs G c n es l)
    (hp:PlainArgs es) (hA:AOk n c A) (hs:St G c o H ls s) (h:l ls (fun vs H1=>w (first.map er ++ vs) Q X H1) X H) :
    wpN (model G.prog G.w) A (callWith pos f first (backTo pos (starEach es c.env)) []) (RV G c o ls Q) (PX G c o ls X) s:=by
  refine xA0_1 (hp pos c.env) ?_;intro h1 hT1;refine xA2_0 hT1 ?_;(try clear hT1);intro x r e
  refine callN_by GO hf h1 ?_
  have:=hl A o s H ls _ X pos hA hs h
  rw [e] at this ⊢
  refine PySem.Calls.evalArgs_plain (wpAny_mono this (fun vs s1 hF1=>xA1_1 hF1 fun H1 hs1 h1=>(xI0_2 rfl hs1.base ?_)) fun zz zz e=>e)
  exact hw A o s1 H1 ls Q X (first ++ vs) hA hs1 (by rw [List.map_append];exact h1)
theorem nr_call (GO:GlOk G) {f:Value} {w:List V -> WV} {l:WL} {x:Str} {np pos:Pos} {es:List Expr} (hx:SE G c n (.Name x np) (wVal (er f))) (hf:Callee G f) (hw:CallN G c n f w) (hl:SEs G c n es l) (hp:PlainArgs es:=by intro _ _;exact ⟨rfl,_,_,rfl⟩) :
    NE G c n (.Call (.Name x np) es [] pos) (wCall w l):=fun A o s H ls Q X hA hs h=>by
  show wpN _ A (do callWith pos (<- eval (.Name x np) c.env) [] (backTo pos (starEach es c.env)) (backToKw pos (keywordEach [] c.env))) _ _ s
  refine n_bind (n_mono (n_of (hx A o s H ls (fun v H'=>v = er f /\ H' = H) X hA hs ⟨rfl,rfl⟩)) (fun v s1 hF1=>xA1_2 hF1 fun H1 hs1 h1 h2=>?_) fun zz zz e=>e)
  subst h2
  rw [hf.inj h1]
  exact callN_with (first:=[]) GO hf hw hl hp hA hs1 h
theorem nr_call0 (GO:GlOk G) {f:Value} {w:List V -> WV} {x:Str} {np pos:Pos} (hx:SE G c n (.Name x np) (wVal (er f))) (hf:Callee G f) (hw:CallN G c n f w):NE G c n (.Call (.Name x np) [] [] pos) (wCall0 w):=fun A o s H ls Q X hA hs h=>by
  show wpN _ A (do callWith pos (<- eval (.Name x np) c.env) [] (backTo pos (starEach [] c.env)) (backToKw pos (keywordEach [] c.env))) _ _ s
  refine n_bind (n_mono (n_of (hx A o s H ls (fun v H'=>v = er f /\ H' = H) X hA hs ⟨rfl,rfl⟩)) (fun v s1 hF1=>xA1_2 hF1 fun H1 hs1 h1 h2=>?_) fun zz zz e=>e)
  subst h2
  rw [hf.inj h1]
  exact callN_by GO hf rfl (evalArgs_nil3 (xI0_2 rfl hs1.base (hw A o s1 H1 ls Q X [] hA hs1 h)))
noncomputable def MethN (G:Gl) (c:Cx) (n:Nat) (name:Str) (chk:V -> MH -> Prop) (w:List V -> WV):Prop :=
  ∀ A o s H ls (pl:Sem Bool) (ov:Value) (E:Value -> Shared -> Prop),AOk n c A -> St G c o H ls s -> chk (er ov) H -> wpAny (model G.prog G.w) A (getMethod ov name pl) (fun fx s'=>St G c o H ls s' /\ Callee G fx.1 /\ fx.2 = [ov] /\ CallN G c n fx.1 w) E s
theorem nr_meth (GO:GlOk G) {name:Str} {chk:V -> MH -> Prop} {w:List V -> WV} {a:WE} {l:WL} {b:Expr} {apos pos:Pos} {es:List Expr} {pl:Env -> Sem Bool} (hm:MethN G c n name chk w) (ha:SE G c n b a) (hl:SEs G c n es l)
    (he:∀ env,eval (.Call (.Attribute b name apos) es [] pos) env = (do
      let ov <- eval b env
      standAt apos.atName
      let (f,first) <- holding [ov] (getMethod ov name (pl env))
      callWith pos f first (backTo pos (starEach es env)) (backToKw pos (keywordEach [] env))):=by intro _;rfl) (hp:PlainArgs es:=by intro _ _;exact ⟨rfl,_,_,rfl⟩) :
    NE G c n (.Call (.Attribute b name apos) es [] pos) (wMeth chk w a l):=fun A o s H ls Q X hA hs h=>by
  rw [he]
  refine n_bind (n_mono (n_of (ha A o s H ls _ X hA hs h)) (fun ov s1 hF1=>xA1_2 hF1 fun H1 hs1 h1 h1'=>?_) fun zz zz e=>e)
  refine n_bind (n_standAt (n_bind (n_holding (n_mono (n_of (hm A o s1 H1 ls _ ov _ hA hs1 h1)) (fun fx s2 hF1=>xA0_3 hF1 fun hs2 hf hx hw=>?_) fun zz zz e=>e))))
  show wpN _ _ (callWith pos fx.1 fx.2 (backTo pos (starEach es c.env)) []) _ _ _
  rw [hx]
  exact callN_with (first:=[ov]) GO hf hw hl hp hA hs2 h1'
theorem n_asg (C:CxOk G c) (i:Nat) {x:Str} {px pos:Pos} {e:Expr} {w:WE} (he:NE G c n e w) (hi:c.names[i]? = some x:=by rfl) (hk:c.env.kindOf x = some .local:=by rfl)
    (hsw:∀ env,swapsWith e (some (.Name x px)) pos.line env = pure false:=by intro _;rfl):NS G c n (.Assign [.Name x px] e pos) (sAsg i w):=fun A o s H ls Qn Qr X hA hs h=>by
  rw [exec_Assign_Name c.env x px e pos (hsw _)]
  refine n_bind (n_standAt (n_bind (n_mono (he A o s H ls _ X hA hs h) (fun v s1 hF1=>xA1_1 hF1 fun H1 hs1 h1=>?_) fun zz zz e=>⟨ls,e⟩)))
  refine n_bind (n_standAt (n_bind (n_of (wpAny_bindName (wpAny_mono (storeLocal_ok C hs1 hi hk) (fun zz s' h'=>?_) fun zz zz e=>e)))))
  exact n_pure (xI2_1 _ H1 h' h1)
theorem n_expr {e:Expr} {pos:Pos} {w:WE} (he:NE G c n e w) (hi:interactive c.env = false) (hsw:∀ env,swapsWith e none pos.line env = pure false:=by intro _;rfl):NS G c n (.Expr e pos) (sExpr w):=fun A o s H ls Qn Qr X hA hs h=>by
  rw [exec_Expr c.env e pos hi (hsw _)]
  refine n_bind (n_standAt (n_bind (n_mono (he A o s H ls _ X hA hs h) (fun v s1 hF1=>xA1_2 hF1 fun H1 hs1 hv h1=>?_) fun zz zz e=>⟨ls,e⟩)))
  rw [er_none hv,dropValue_plain (by intro a q;cases q)]
  exact n_pure (xI2_1 ls H1 hs1 h1)
theorem n_try (CO:CxOk G c) {outer:List Env} (hst:c.stack = c.env :: outer) {b:List Stmt} {h0:ExceptHandler} {hs:List ExceptHandler} {pos:Pos} {wb:WS} {wh:Addr -> WR} (hb:NX G c n b wb) (hh:HOk G c (h0 :: hs) wh):NS G c n (.Try b (h0 :: hs) [] [] pos) (sTry wb wh):=fun A o s H ls Qn Qr X hA hs' h=>by
  refine xA1_1 CO.frame ?_;intro L hL _
  rw [arm_exec_Try]
  refine n_bind (n_standAt ?_)
  unfold tryStmt
  simp only [List.isEmpty_nil,if_true,List.isEmpty_cons,Bool.false_and,Bool.false_eq_true,if_false]
  refine n_bind (n_attempt (n_mono (hb A o s H ls Qn Qr _ hA hs' h) (fun f s1 hf=>?_) fun e s1 he=>?_))
  · cases f with
    | next => exact n_of (wpAny_execs_nil hf)
    | ret v => exact n_pure hf
    | brk => exact hf.elim
    | cont => exact hf.elim
  · refine xA3_3 he ?_;(try clear he);intro ea C H' hT1;subst hT1;intro hs1 hX hf
    refine n_of (wpAny_bind (wpAny_mono (note_ok CO hA.1 hst hL hs1 hf) (fun zz s2 hF1=>xA0_1 hF1 fun hs2 hf2=>wpAny_bind ?_) fun zz zz e=>e))
    refine wpAny_mono (land_ok CO hs2 hf2) (fun zz s3 hF1=>xA0_1 hF1 fun hs3 hf3=>?_) fun zz zz e=>e
    refine wpAny_mono (hh A o s3 H' ls Qr _ ea C hs3 hf3 hX) (fun f s4 h4=>?_) fun zz zz e=>e
    cases f with
    | ret v => exact h4
    | next => obtain ⟨_,_,_,h⟩ := h4;exact h.elim
    | brk => exact h4.elim
    | cont => exact h4.elim
end
section
variable {prog:Program} {w:World} {A:Around} {E:Value -> Shared -> Prop} {s:Shared} {env:Env}
theorem n_noted {α:Type} {M:Model} {m:Sem α} {Q:α -> Shared -> Prop} (h:wpN M A m Q (notedBy M A env E) s):wpN M A (m.onRaise fun x=>do noteFrame x env;theTreesLotGoes x) Q E s :=
  n_onRaise (n_mono h (fun zz zz q=>q) fun zz zz hx=>n_of (wpAny_bind (wpAny_mono hx (fun zz zz e=>wpAny_theTreesLotGoes e) fun zz zz e=>e)))
theorem codeN_for {R:Result -> Shared -> Prop} {target:Expr} {it:Value} {body:List Stmt} (I:Nat -> Shared -> Prop)
    (turn:∀ n s,I n s -> wpAny (model prog w) A (pyNext it) (fun r s₁=>match r with
      | none => wpAny (model prog w) A (execs [] env) (fun f s₃ => R (.ok f) s₃) (notedBy (model prog w) A env fun e s' => R (.error e) s') s₁
      | some v => wpAny (model prog w) A (letOwnedTupleGo target it v) (fun zz s₁' =>
          wpAny (model prog w) A (assign target env v) (fun zz s₂=>wpN (model prog w) A (execs body env) (fun f s₃=>match f with
            | .next | .cont => ∃ m,m < n /\ I m s₃
            | .brk => R (.ok .next) s₃
            | .ret v => R (.ok (.ret v)) s₃) (notedBy (model prog w) A env fun e s' => R (.error e) s') s₂) (notedBy (model prog w) A env fun e s' => R (.error e) s') s₁') (notedBy (model prog w) A env fun e s' => R (.error e) s') s₁) (notedBy (model prog w) A env fun e s' => R (.error e) s') s)
    (n:Nat) (h:I n s):codeN (model prog w) A (.forLoop target it body [] env) R s:=by
  refine codeN_loop rfl rfl I (fun n s hI=>?_) n h
  show wpN _ A ((forTurn target it body [] env).onRaise (fun x=>do noteFrame x env;theTreesLotGoes x)) _ _ s
  refine n_noted ?_
  simp only [forTurn]
  refine n_bind (n_standAt (n_bind (n_of (wpAny_onRaise (wpAny_mono (turn n s hI) (fun r s₁ h₁=>?_) fun zz zz h'=>wpAny_standAt h')))))
  cases r with
  | none => exact n_pure (.inr ⟨rfl,codeN_of (codeAny_block h₁)⟩)
  | some v =>
    refine n_bind (n_of (wpAny_mono h₁ (fun zz s₁' h₁'=>?_) fun zz zz h'=>h'))
    refine n_bind (n_of (wpAny_mono h₁' (fun zz s₂ h₂=>?_) fun zz zz h'=>h'))
    refine n_bind (n_mono h₂ (fun f s₃ h₃=>?_) fun zz zz h'=>h')
    cases f with
    | next => exact n_pure (.inl ⟨rfl,h₃⟩)
    | cont => exact n_pure (.inl ⟨rfl,h₃⟩)
    | brk => exact n_pure h₃
    | ret v => exact n_pure h₃
end
section
variable {G:Gl} {c:Cx} {n:Nat}
theorem n_forCore (CO:CxOk G c) {outer:List Env} (hst:c.stack = c.env :: outer) {target:Expr} {it:Value} {ι:Type} {l:List Addr} {Src:List ι -> Heap -> Prop} {guard:MH -> Prop} {aw:ι -> List V -> QL -> MH -> Prop} (I:IterOk G c n target it l Src guard aw)
    {body:List Stmt} {wb:WS} (hb:NB G c n body wb) {A:Around} {o:Org} {s:Shared} {H:MH} {ls:List V} {Qn:QL} {Qr:QV} {X:XP} {xs:List ι} (hA:AOk n c A) (hs:St G c o H ls s) (hn:∀ b ∈ l,New G c o H s.heap b) (hsrc:Src xs s.heap) (h:forW guard aw wb xs ls Qn Qr X H) :
    codeN (model G.prog G.w) A (.forLoop target it body [] c.env) (RFh G c o Qn Qr X) s:=by
  refine codeN_for (fun k s=>∃ xs H ls,k = xs.length /\ St G c o H ls s /\ (∀ b ∈ l,New G c o H s.heap b) /\ Src xs s.heap /\ forW guard aw wb xs ls Qn Qr X H) ?_ xs.length (xI3_4 xs H ls rfl hs hn hsrc h)
  intro k s hT1;refine xA3_4 hT1 ?_;(try clear hT1);intro xs H ls hT2;subst hT2;intro hs hn hsrc h
  cases xs with
  | nil =>
    refine wpAny_mono (I.fin A o s H ls _ hA hs hn h.1 hsrc) (fun r s' hF1=>xA0_2 hF1 fun h1 h2 zz=>?_) fun zz zz e=>e
    subst h1
    exact wpAny_execs_nil (xI2_1 ls H h2 h.2)
  | cons x xs =>
    refine wpAny_mono (I.turn A o s H ls _ _ x xs hA hs hn h.1 hsrc h.2) (fun r s1 hF1=>xA1_1 hF1 fun v h1 h2=>?_) fun zz zz e=>e
    subst h1
    refine wpAny_mono h2 (fun zz s1' h3=>wpAny_mono h3 (fun zz s2 hF1=>xA2_4 hF1 fun ls' H' hs2 hn2 hsrc2 zz h4=>?_) fun zz zz e=>e) fun zz zz e=>e
    refine n_mono (hb A (here H' s2) s2 H' ls' _ Qr X hA hs2.rebase h4) (fun f s3 hf=>?_) fun e s3 he=>noted_ok CO hst hA.1 (he.trans hs2)
    cases f with
    | next =>
      refine xA2_1 hf ?_;(try clear hf);intro ls3 H3 hs3 h5
      have hk:∀ b ∈ l,∀ y,s2.heap.get? b = some y -> s3.heap.get? b = some y:=fun b hb y e=>kept_new hs3 (hn2 b hb) e
      have hsrc3:=I.keep xs _ _ hsrc2 hk
      exact (xI1_1 xs.length (by simp) (xI3_4 xs H3 ls3 rfl (hs2.trans hs3) (fun b hb=>(hn2 b hb).later hs2 hs3 (I.live _ _ hsrc2 b hb) (I.nocode _ _ hsrc3 b hb)) hsrc3 h5))
    | ret v =>
      refine xA2_1 hf ?_;(try clear hf);intro ls3 H3 hs3 h5
      exact (xI2_1 ls3 H3 (hs2.trans hs3) h5)
    | brk => exact hf.elim
    | cont => exact hf.elim
theorem n_runOwn {M:Model} {A:Around} {env:Env} {E:Value -> Shared -> Prop} {s:Shared} {cd:Code} {Q:Flow -> Shared -> Prop} (hc:codeN M A cd (fun r s'=>match r with | .ok f=>Q f s' | .error e=>cameBackBy M A env E e s') s):wpN M A (runOwn cd env) Q E s:=by
  unfold runOwn
  refine n_onRaise (n_mono (n_run (h:=none) hc) (fun zz zz e=>e) fun zz zz h=>n_of h)
theorem n_for (CO:CxOk G c) {outer:List Env} (hst:c.stack = c.env :: outer) {target iter:Expr} {body:List Stmt} {pos:Pos} {ι:Type} {K:ItK ι} {aw:ι -> List V -> QL -> MH -> Prop} {wi:WI ι} {wb:WS} (hi:SIt G c n iter K wi) (hk:IOk G c n target K aw) (hb:NB G c n body wb)
    (hs:∀ env x,foldedSetIterable iter env x = pure x:=by intro _ _;rfl):NS G c n (.For target iter body [] pos) (sFor aw wi wb):=fun A o s H ls Qn Qr X hA hst' h=>by
  rw [PySem.exec_For]
  refine n_bind (n_standAt (n_bind (n_of (wpAny_mono (hi A o s H ls _ X hA hst' h) (fun x s1 h1=>?_) fun zz zz e=>⟨ls,e⟩))))
  rw [hs]
  refine n_bind (n_pure (n_bind (n_standAt (n_bind (n_holding (n_of (wpAny_mono h1 (fun it s2 h2=>?_) fun zz zz e=>⟨ls,e⟩)))))))
  refine xA5_0 h2 ?_;(try clear h2);intro H2 l Src guard xs hT1;refine xA0_4 hT1 ?_;(try clear hT1);intro I hs2 hn hsrc hq
  refine n_runOwn (codeN_mono (n_forCore CO hst (hk _ _ _ _ I) hb hA hs2 hn hsrc hq) fun r s' hr=>?_)
  cases r with
  | ok f => exact hr
  | error e => exact came_ok CO hr
end
section
variable {G:Gl} {c:Cx} {n:Nat}
noncomputable def baW (vals:List V):WV:=fun Q zz H=>vals = [] /\ ∀ a,H a = none -> Q (.ref a) (upd H a (.barr []))
theorem ba_call:CallN G c n (.type "bytearray") baW:=fun A o s H ls Q X args hA hs h=>by
  refine xA0_1 h ?_;(try clear h);intro h1 h2
  have:args = []:=by cases args with
    | nil => rfl
    | cons a l => cases h1
  subst this
  refine n_bytearray fun h' hob hk=>?_
  exact (xI1_1 _ (hs.alloc (m:=.barr []) (s':={ s with heap:=h' }) hk (size_none _) hob ⟨rfl,(xI1_2 _ rfl rfl rfl)⟩ rfl rfl) (h2 _ (hs.fresh (size_none _)).1))
noncomputable def baAppW (vals:List V):WV:=fun Q zz H=>on2 vals fun v u=>onRef v fun a=>onInt u fun x=>onBarr (H a) fun l=>(0 <= x /\ x < 256 /\ l.length <= 100000) /\ Q .none (upd H a (.barr (l ++ [x.toNat])))
theorem ba_app (CO:CxOk G c):CallN G c n (.builtin "bytearray.append") baAppW:=fun A o s H ls Q X args hA hs h=>by
  refine on2_k h fun v u hv h=>onRef_k h fun a e1 h=>onInt_k h fun x t e2 h=>onBarr_k h fun l hH h=>?_
  rw [hv,e1,e2]
  refine xA0_1 h ?_;(try clear h);intro hT1 hq;refine xA0_2 hT1 ?_;(try clear hT1);intro x0 x1 hl
  refine xA1_2 (hs.live hH) ?_;intro ob g1 g2 hT1;refine xA1_2 hT1 ?_;(try clear hT1);intro b g3 g4 g5
  have hsz:b.size = l.length:=by rw [<- g4,List.length_map,Array.length_toList]
  refine n_append g1 g2 g3 x0 x1 (by rw [hsz];exact Nat.lt_of_le_of_lt hl (by decide)) ?_
  obtain ⟨oc,od,odt,osl⟩:=ob
  simp only at g2 g3 g5
  subst g2;subst g3
  refine ⟨_,hs.update CO (s':={ s with heap:=s.heap.update a (Obj.mapBytearray (·.push x.toNat.toUInt8)) }) (m:=.barr (l ++ [x.toNat])) hH (Heap.SameBut.update _ _ _) (Heap.get?_update_self _ g1 rfl) ⟨rfl,(xI1_2 _ rfl ?_ g5)⟩ rfl rfl,hq⟩
  have hx:(x.toNat.toUInt8).toNat = x.toNat:=by
    have:x.toNat < 256:=by exact oA31 x1
    simp [Nat.toUInt8,Nat.mod_eq_of_lt this]
  rw [Array.toList_push,List.map_append,g4]
  simp [hx]
noncomputable def isBaV (v:V) (H:MH):Prop:=∃ a l,v = .ref a /\ H a = some (.barr l)
theorem ba_plain:PlainAttrs "bytearray" :=
  ⟨(xI1_1 ("bytearray.__getattribute__") (by rw [typeLookup_type,builtinLookup_eq_fast];kernel_rfl) (by decide +kernel)),by rw [typeLookup_type,builtinLookup_eq_fast];kernel_rfl⟩
theorem ba_meth (CO:CxOk G c):MethN G c n (PySem.Str.ofString "append") isBaV baAppW:=fun A o s H ls pl ov E hA hs hc=>by
  refine xA2_1 hc ?_;(try clear hc);intro a l e hH
  rw [er_ref e]
  refine xA1_2 (hs.live hH) ?_;intro ob g1 g2 hT1;refine xA1_2 hT1 ?_;(try clear hT1);intro b g3 g4 g5
  exact getMethod_builtin (xI1_1 _ g1 g2) ba_plain ba_slot_append (by kernel_rfl) (fun b e=>by cases e;exact (xI1_1 _ g1 g5)) (xI0_3 hs (.blt _) rfl (ba_app CO))
end
structure FnTxt where
  params:Arguments
  body:List Stmt
  scope:Scope
noncomputable def fnTxt:Stmt -> FnTxt
  | .FunctionDef _ params body _ _ _ scope _ _ _ => ⟨params,body,scope⟩
  | _ => ⟨⟨[],[],none,[],[],none,[]⟩,[],⟨.function,[],false,false,[]⟩⟩
noncomputable def topFn (i:Nat):FnTxt:=fnTxt ((PySem.Challenge.pw_tg0039_01.main.body)[i]!)
noncomputable abbrev Def (G:Gl) (t:FnTxt) (fa:Addr) (name qual:Str):Prop:=∃ doc pm an cdv ct,FnRec G fa name qual t.params t.body t.scope .none .none doc pm an cdv ct
theorem forW_inv {ι:Type} {guard:MH -> Prop} {aw:ι -> List V -> QL -> MH -> Prop} {b:WS} {Qn:QL} {Qr:QV} {X:XP} (Inv:List ι -> List V -> MH -> Prop) (hg:∀ xs ls H,Inv xs ls H -> guard H) (he:∀ ls H,Inv [] ls H -> Qn ls H)
    (hs:∀ x xs ls H (K:QL),Inv (x :: xs) ls H -> (∀ ls' H',Inv xs ls' H' -> K ls' H') -> aw x ls (fun ls' H'=>b ls' K Qr X H') H):∀ xs ls H,Inv xs ls H -> forW guard aw b xs ls Qn Qr X H
  | [],ls,H,h => ⟨hg _ _ _ h,he _ _ h⟩
  | x :: xs,ls,H,h => ⟨hg _ _ _ h,hs x xs ls H _ h fun ls' H' h' => forW_inv Inv hg he hs xs ls' H' h'⟩
inductive greatestC (args:List V) (Q:QV) (X:XP) (H:MH):Prop
  | mk (a) (ns : List Int) (o1 : args = [.ref a]) (o2 : H a = some (.list (ns.map .int))) (o3 : ∀ k ∈ ns,small k) (o4 : Q (.int (ns.foldl (fun m k => if m < k then k else m) 0)) H)
theorem greatest_ok {G:Gl} (GO:GlOk G) {fa:Addr} {name qual:Str} (F:Def G (topFn 25) fa name qual) :
    FnOk G 2 (.ref fa) greatestC:=by
  refine xA5_0 F ?_;(try clear F);intro doc pm an cdv ct F
  refine fn_plain (wb:=_) (names:=["lengths", "most", "length"]) (k:=1) (m:=2) GO F (by decide +kernel) (by decide) rfl (by decide +kernel) ?_
    (fun L st C=>b_cons (s_asg C 1 r_int) (b_cons (s_for C rfl (it_list (r_loc C 0)) (k_list C (a_loc C 2)) (b_one (s_if (t_cmp1 o_gt (r_loc C 2) (r_loc C 1)) (b_one (s_asg C 1 (r_loc C 2))) b_nil))) (b_one (s_ret (r_loc C 1)))))
  rintro s args Q X H hb ⟨a,ns,h1,h2,h3,h4⟩
  refine xA1_1 (map1 h1) ?_;intro u hT1;subst hT1;intro e
  refine (xI1_2 [u] rfl (.of_eq (by first | rfl | with_unfolding_all rfl)) ?_)
  show fnW _ 2 [er u] Q X H
  rw [e]
  refine onList_of h2 ?_
  refine forW_inv (fun xs ls H'=>H' = H /\ ∃ rest:List Int,∃ m:Int,∃ y,xs = rest.map .int /\ (∀ k ∈ rest,small k) /\ small m /\ ls = [.ref a,.int m,y] /\ rest.foldl (fun m k=>if m < k then k else m) m = ns.foldl (fun m k=>if m < k then k else m) 0) ?_ ?_ ?_ _ _ _ ⟨rfl,(xI3_4 ns 0 _ rfl h3 ?_ rfl rfl)⟩
  · intro xs ls H' hT1;refine xA0_1 hT1 ?_;(try clear hT1);intro hT2;subst hT2;intro rest
    exact h2
  · intro ls H' hT1;refine xA0_1 hT1 ?_;(try clear hT1);intro hT2;subst hT2;intro hT3;refine xA3_4 hT3 ?_;(try clear hT3);intro rest m y e1 e2 e3 hT4;subst hT4;intro e4
    obtain rfl:=List.map_eq_nil_iff.mp e1.symm
    rw [<- e4] at h4
    exact h4
  · intro x xs ls H' K hT1 hK;refine xA0_1 hT1 ?_;(try clear hT1);intro hT2;subst hT2;intro hT3;refine xA3_4 hT3 ?_;(try clear hT3);intro rest m y e1 e2 e3 hT4;subst hT4;intro e4
    refine xA2_0 (?_:∃ k r,rest = k :: r) ?_
    · cases rest with
      | nil => cases e1
      | cons k r => exact (xI2_0 k r rfl)
    intro k rest hT1;subst hT1
    cases e1
    rw [List.foldl_cons] at e4
    refine ⟨fun hlt=>hK _ _ ⟨rfl,(xI3_4 rest k _ rfl (fun q hq=>e2 q (.tail _ hq)) (e2 k (.head _)) rfl ?_)⟩,fun hlt=>hK _ _ ⟨rfl,(xI3_4 rest m _ rfl (fun q hq=>e2 q (.tail _ hq)) e3 rfl ?_)⟩⟩
    · rw [if_pos hlt] at e4;exact e4
    · rw [if_neg hlt] at e4;exact e4
  · exact ⟨by decide,by decide⟩
noncomputable def bltNames:List Str:=["isinstance", "int", "bool", "len", "bytes", "min", "max", "list", "range", "enumerate", "str", "sum", "abs", "bytearray", "ValueError"]
noncomputable def Miss (G:Gl):Prop:=∀ x ∈ bltNames,G.mg x = none
inductive needC (args:List V) (Q:QV) (X:XP) (H:MH):Prop
  | mk (k : Int) (o1 : args = [.int k]) (o2 : 0 <= k) (o3 : small k) (o4 : Q .none H)
theorem need_ok {G:Gl} (GO:GlOk G) (NB:Miss G) {fa:Addr} {name qual:Str} (F:Def G (topFn 8) fa name qual) :
    FnOk G 3 (.ref fa) needC:=by
  refine xA5_0 F ?_;(try clear F);intro doc pm an cdv ct F
  refine fn_plain (wb:=_) (names:=["count"]) (k:=1) (m:=0) (n:=2) GO F (by decide +kernel) (by decide) rfl (by decide +kernel) ?_
    (fun L st C=>b_one (s_if (t_bool (t_or1 (t_not (t_val (r_call GO (r_blt GO C (v:=.builtin "isinstance") (NB _ (by decide)) rfl) (.blt _) isinst_ok (l_cons (r_loc C 0) (l_cons (r_blt GO C (v:=.type "int") (NB _ (by decide)) rfl) l_nil)))))
      (t_or1 (t_val (r_call GO (r_blt GO C (v:=.builtin "isinstance") (NB _ (by decide)) rfl) (.blt _) isinst_ok (l_cons (r_loc C 0) (l_cons (r_blt GO C (v:=.type "bool") (NB _ (by decide)) rfl) l_nil))))
        (t_or1 (t_cmp1 o_lt (r_loc C 0) r_int) t_or0)))) (b_one s_never) b_nil))
  rintro s args Q X H hb ⟨k,h1,h2,h3,h4⟩
  refine xA1_1 (map1 h1) ?_;intro u hT1;subst hT1;intro e
  refine (xI1_2 [u] rfl (.of_eq (by rfl)) ?_)
  show fnW _ 0 [er u] Q X H
  rw [e]
  have hk:¬ k < 0:=Int.not_lt.mpr h2
  exact (xI0_2 rfl (fun q=>(hk q).elim) (fun zz=>h4))
inductive endofC (args:List V) (Q:QV) (X:XP) (H:MH):Prop
  | mk (b : List Nat) (o1 : args = [.bytes b,.int 0,.none]) (o2 : b.length <= 100000) (o3 : Q (.int b.length) H)
theorem endof_ok {G:Gl} (GO:GlOk G) (NB:Miss G) {fa:Addr} {name qual:Str} (F:Def G (topFn 9) fa name qual) :
    FnOk G 3 (.ref fa) endofC:=by
  refine xA5_0 F ?_;(try clear F);intro doc pm an cdv ct F
  refine fn_plain (wb:=_) (names:=["octets", "start", "end", "stop"]) (k:=3) (m:=1) (n:=2) GO F (by decide +kernel) (by decide) rfl (by decide +kernel) ?_
    (fun L st C=>b_cons (s_asg C 3 (r_ifexp (t_cmp1 o_is (r_loc C 2) r_none) (r_call GO (r_blt GO C (v:=.builtin "len") (NB _ (by decide)) rfl) (.blt _) len_ok (l_cons (r_loc C 0) l_nil)) (r_loc C 2)))
      (b_cons (s_if (t_not (t_chain r_int (tc_link o_le (r_loc C 1) (tc_link o_le (r_loc C 3) (tc_last o_le (r_call GO (r_blt GO C (v:=.builtin "len") (NB _ (by decide)) rfl) (.blt _) len_ok (l_cons (r_loc C 0) l_nil))))))) (b_one s_never) b_nil)
        (b_one (s_ret (r_loc C 3)))))
  rintro s args Q X H hb ⟨b,h1,h2,h3⟩
  refine xA3_3 (map3 h1) ?_;intro u v z hT1;subst hT1;intro e1 e2 e3
  refine (xI1_2 [u,v,z] rfl (.of_eq (by rfl)) ?_)
  show fnW _ 1 [er u,er v,er z] Q X H
  rw [e1,e2,e3]
  exact (xI0_3 rfl h2 (fun zz=>⟨fun zz=>(xI0_2 h2 (fun zz=>h3) (fun q=>q (Int.le_refl _))),fun q=>q (Int.natCast_nonneg _)⟩) (fun q=>q (Int.le_refl _)))
theorem bnot_eq (x:Int):Builtin.bitNot x = -x - 1:=by unfold Builtin.bitNot;lia
theorem band_nat (a b:Nat):Builtin.bitAnd a b = ((a &&& b:Nat):Int):=by
  unfold Builtin.bitAnd
  rw [decide_eq_true (Int.natCast_nonneg a),decide_eq_true (Int.natCast_nonneg b)]
  simp
theorem bor_nat (a b:Nat):Builtin.bitOr a b = ((a ||| b:Nat):Int):=by
  unfold Builtin.bitOr Builtin.bitAnd
  have h1:¬ (0:Int) <= Builtin.bitNot a:=by rw [bnot_eq];exact oA132
  have h2:¬ (0:Int) <= Builtin.bitNot b:=by rw [bnot_eq];exact oA132
  rw [decide_eq_false h1,decide_eq_false h2]
  simp only [bnot_eq]
  have e1:(-(-(a:Int) - 1) - 1).toNat = a:=by exact oA44
  have e2:(-(-(b:Int) - 1) - 1).toNat = b:=by exact oA44
  rw [e1,e2]
  lia
theorem bor_add {a b i:Nat} (h:a < 2 ^ i):Builtin.bitOr a ((b * 2 ^ i:Nat):Int) = ((a + b * 2 ^ i:Nat):Int):=by
  rw [bor_nat,Nat.or_comm,<- Nat.shiftLeft_eq,<- Nat.shiftLeft_add_eq_or_of_lt h,Nat.add_comm]
theorem band_mod (a i:Nat):Builtin.bitAnd a ((2 ^ i - 1:Nat):Int) = ((a % 2 ^ i:Nat):Int):=by
  rw [band_nat,Nat.and_two_pow_sub_one_eq_mod]
noncomputable def leVal:List Nat -> Nat
  | [] => 0
  | x :: r => x + 256 * leVal r
theorem leVal_lt:∀ {b:List Nat},(∀ x ∈ b,x < 256) -> leVal b < 256 ^ b.length
  | [],_ => Nat.one_pos
  | x :: r,h => by
    have h1:=h x (.head _)
    have h2:=leVal_lt (b:=r) fun y hy=>h y (.tail _ hy)
    show x + 256 * leVal r < 256 ^ (r.length + 1)
    rw [Nat.pow_succ];exact oA298 h1 h2
theorem leVal_at:∀ {b:List Nat} {p v:Nat},(∀ x ∈ b,x < 256) -> b[p]? = some v -> leVal b / 256 ^ p % 256 = v
  | x :: r,0,v,h,e => by
    have h1:=h x (.head _)
    cases e
    show (x + 256 * leVal r) / 256 ^ 0 % 256 = x
    rw [Nat.pow_zero,Nat.div_one];lia
  | x :: r,p + 1,v,h,e => by
    have h1:=h x (.head _)
    have h2:=leVal_at (b:=r) (p:=p) (v:=v) (fun y hy=>h y (.tail _ hy)) e
    show (x + 256 * leVal r) / 256 ^ (p + 1) % 256 = v
    have:(x + 256 * leVal r) / 256 = leVal r:=by lia
    rw [Nat.pow_succ,Nat.mul_comm (256 ^ p) 256,<- Nat.div_div_eq_div_mul,this,h2]
theorem more_bits {N g i w B x:Nat} (hi:i <= 8) (hw:w = 8 - i) (hB:N / 2 ^ g = B / 2 ^ i) (hx:B % 256 = x):N % 2 ^ g + x / 2 ^ i * 2 ^ g = N % 2 ^ (g + w):=by
  have e:(2:Nat) ^ i * 2 ^ w = 256:=by rw [hw,<- Nat.pow_add];show 2 ^ (i + (8 - i)) = 2 ^ 8;congr 1;exact oA127 hi
  rw [Nat.pow_add,Nat.mod_mul,hB,<- hx,<- e,Nat.mod_mul_right_div_self,Nat.mul_comm (B / 2 ^ i % 2 ^ w)]
theorem while_inv {t:WT} {b:WS} {Qn:QL} {Qr:QV} {X:XP} (Inv:Nat -> List V -> MH -> Prop)
    (hs:∀ m ls H (K:QL),Inv m ls H -> (∀ m' ls' H',m' < m -> Inv m' ls' H' -> K ls' H') -> t ls (fun v H1=>br v (b ls K Qr X H1) (Qn ls H1)) X H)
    {m:Nat} {ls:List V} {H:MH} (h:Inv m ls H):sWhile t b ls Qn Qr X H:=by
  have go:∀ k m ls H,m < k -> Inv m ls H -> whileN t b k ls Qn Qr X H:=fun k=>by
    induction k with
    | zero => intro m ls H hm;exact absurd hm (Nat.not_lt_zero _)
    | succ k ih => exact fun m ls H hm h => hs m ls H _ h fun m' ls' H' hm' h' => ih m' ls' H' (Nat.lt_of_lt_of_le hm' (Nat.le_of_lt_succ hm)) h'
  exact ⟨m + 1,go _ _ _ _ (Nat.lt_succ_self _) h⟩
theorem aLocs_reach (is:List Nat):∀ a ∈ is.map aLoc,∀ (v:V) (ls:List V) (Qn:QL) (Qr:QV) (X:XP) (H:MH),a v ls Qn Qr X H -> ∃ ls' H',Qn ls' H':=fun a ha v ls Qn Qr X H h=>by
  refine xA1_1 (List.mem_map.mp ha) ?_;intro i _ hT1;subst hT1
  exact (xI2_0 _ _ h)
noncomputable def Ext (H H':MH):Prop:=∀ a m,H a = some m -> H' a = some m
theorem Ext.rfl {H:MH}:Ext H H:=fun zz zz e=>e
theorem Ext.trans {H H1 H2:MH} (x:Ext H H1) (y:Ext H1 H2):Ext H H2:=fun a m e=>y a m (x a m e)
theorem Ext.new {H:MH} {D:Addr} {m:MO} (h:H D = none):Ext H (upd H D m):=fun a mo e=>by
  by_cases q:a = D
  · rw [q,h] at e;cases e
  · rw [upd_ne _ _ q];exact e
theorem map4 {l:List Value} {a b d e:V} (h:l.map er = [a,b,d,e]):∃ x y z w,l = [x,y,z,w] /\ er x = a /\ er y = b /\ er z = d /\ er w = e:=by
  cases l with
  | nil => cases h
  | cons x l =>
    rw [List.map_cons,List.cons.injEq] at h
    refine xA3_3 (map3 h.2) ?_;intro y z w hT1;subst hT1;intro e1 e2 e3
    exact ⟨x,y,z,w,rfl,h.1,e1,e2,e3⟩
inductive gatheredC (args:List V) (Q:QV) (X:XP) (H:MH):Prop
  | mk (b : List Nat) (low count : Nat) (o1 : args = [.bytes b,.int low,.int count,.int b.length]) (o2 : ∀ x ∈ b,x < 256) (o3 : b.length <= 100000) (o4 : count <= 100) (o5 : ∀ H',Ext H H' -> Q (.int (leVal b / 2 ^ low % 2 ^ count : Nat)) H')
theorem gathered_ok {G:Gl} (GO:GlOk G) {fa:Addr} {name qual:Str} (F:Def G (topFn 10) fa name qual) :
    FnOk G 3 (.ref fa) gatheredC:=by
  refine xA5_0 F ?_;(try clear F);intro doc pm an cdv ct F
  refine fn_plain (wb:=_) (names:=["octets", "low", "count", "stop", "value", "got", "place", "inside"]) (k:=4) (m:=4) (n:=2) GO F (by decide +kernel) (by decide) rfl (by decide +kernel) ?_
    (fun L st C=>b_cons (s_asgT (a_tup (.cons (a_loc C 4) (.cons (a_loc C 5) (.cons (a_loc C 6) (.cons (a_loc C 7) .nil)))) (by intro _;rfl) (aLocs_reach [4,5,6,7])) (r_tup (l_cons r_int (l_cons r_int (l_cons (r_bin o_shr (r_loc C 1) r_int) (l_cons (r_bin o_and (r_loc C 1) r_int) l_nil))))))
      (b_cons (s_while C rfl (t_bool (t_and1 (t_cmp1 o_lt (r_loc C 5) (r_loc C 2)) (t_and1 (t_cmp1 o_lt (r_loc C 6) (r_loc C 3)) t_and0)))
          (b_cons (s_aug C 4 o_ior (r_bin o_shl (r_bin o_shr (r_item gi_ok (r_loc C 0) (r_loc C 6)) (r_loc C 7)) (r_loc C 5)))
          (b_cons (s_aug C 5 o_iadd (r_bin o_sub r_int (r_loc C 7))) (b_cons (s_aug C 6 o_iadd r_int) (b_one (s_asg C 7 r_int))))))
        (b_one (s_ret (r_bin o_and (r_loc C 4) (r_bin o_sub (r_bin o_shl r_int (r_loc C 2)) r_int))))))
  rintro s args Q X H hb ⟨b,low,count,h1,h2,h3,h4,h5⟩
  refine xA4_0 (map4 h1) ?_;intro u1 u2 u3 u4 hT1;refine xA0_4 hT1 ?_;(try clear hT1);intro hT2;subst hT2;intro e1 e2 e3 e4
  refine (xI1_2 [u1,u2,u3,u4] rfl (.of_eq (by rfl)) ?_)
  show fnW _ 4 [er u1,er u2,er u3,er u4] Q X H
  rw [e1,e2,e3,e4]
  refine (xI0_2 (by decide) (by simp) (fun D hD=>?_))
  refine onTup_of (upd_self _ _ _) ?_
  have e7:Builtin.bitAnd (low:Int) 7 = ((low % 2 ^ 3:Nat):Int):=band_mod low 3
  have e3:((low:Int)).fdiv (2 ^ Int.toNat 3) = ((low / 2 ^ 3:Nat):Int):=by
    rw [Int.fdiv_eq_ediv_of_nonneg _ (by decide)];rfl
  rw [e7,e3]
  refine while_inv (fun m ls H'=>H' = upd H D (.tup [.int 0,.int 0,.int ((low / 2 ^ 3:Nat):Int),.int ((low % 2 ^ 3:Nat):Int)]) /\ ∃ v g p i:Nat,ls = [.bytes b,.int low,.int count,.int b.length,.int v,.int g,.int p,.int i] /\ i <= 7 /\ g <= 110 /\ 8 * p + i = low + g /\ v = leVal b / 2 ^ low % 2 ^ g /\ m = b.length + low / 8 + 1 - p) (m:=b.length + 1) ?_ ⟨rfl,(xI4_5 0 0 (low / 2 ^ 3) (low % 2 ^ 3) rfl ?_ ?_ ?_ ?_ ?_)⟩
  · intro m ls H' K hT1 hK;refine xA0_1 hT1 ?_;(try clear hT1);intro hT2;subst hT2;intro hT3;refine xA4_5 hT3 ?_;(try clear hT3);intro v g p i hT4;subst hT4;intro hi hg hp hv hm
    have fin:(count <= g ∨ b.length <= p) -> (small 1 /\ (0:Int) <= count /\ (count:Int) <= 1000) /\ Q (V.int (Builtin.bitAnd (v:Int) (1 * 2 ^ ((count:Int)).toNat - 1))) (upd H D (.tup [.int 0,.int 0,.int ((low / 2 ^ 3:Nat):Int),.int ((low % 2 ^ 3:Nat):Int)])):=fun hor=>by
      refine ⟨(xI0_2 ⟨by decide,by decide⟩ (by exact oA63) (by lia)),?_⟩
      have e:(1 * 2 ^ ((count:Int)).toNat - 1:Int) = ((2 ^ count - 1:Nat):Int):=by
        rw [Int.toNat_natCast,Int.one_mul,Int.ofNat_sub Nat.one_le_two_pow];simp
      rw [e,band_mod]
      have:v % 2 ^ count = leVal b / 2 ^ low % 2 ^ count:=by
        rw [hv]
        rcases hor with h | h
        · exact Nat.mod_mod_of_dvd _ (Nat.pow_dvd_pow 2 h)
        · have l1:=leVal_lt h2
          have l2:leVal b < 2 ^ (low + g):=by
            rw [<- hp]
            refine Nat.lt_of_lt_of_le l1 ?_
            rw [show (256:Nat) = 2 ^ 8 from rfl,<- Nat.pow_mul]
            exact Nat.pow_le_pow_right (by decide) (by lia)
          rw [Nat.mod_eq_of_lt (a:=leVal b / 2 ^ low)]
          rw [Nat.div_lt_iff_lt_mul (Nat.two_pow_pos _),Nat.mul_comm,<- Nat.pow_add];exact l2
      rw [this]
      exact h5 _ (Ext.new hD)
    refine ⟨fun hgc=>⟨fun hpl=>⟨h3,.inl ?_⟩,fun hpl=>fin (.inr (by lia))⟩,fun hgc=>fin (.inl (by lia))⟩
    have hpl':p < b.length:=by lia
    refine xA1_0 (⟨_,List.getElem?_eq_getElem hpl'⟩:∃ x,b[p]? = some x) ?_;intro x hx
    have hx256:=h2 x (List.mem_of_getElem? hx)
    have hfd:((x:Int)).fdiv (2 ^ ((i:Int)).toNat) = ((x / 2 ^ i:Nat):Int):=by
      rw [Int.toNat_natCast,Int.fdiv_eq_ediv_of_nonneg _ (Int.le_of_lt (Int.pow_pos (by decide)))];simp
    have hxi:x / 2 ^ i < 256:=Nat.lt_of_le_of_lt (Nat.div_le_self _ _) hx256
    refine ⟨by exact oA63,(xI1_3 x (by simpa using hx) (by exact oA63) (xI0_2 ?_ (by exact oA63) (by exact oA111 hg)) ?_)⟩
    · rw [hfd];generalize x / 2 ^ i = y at hxi;constructor <;> lia
    · rw [hfd]
      refine hK (b.length + low / 8 + 1 - (p + 1)) _ _ (by lia) ⟨rfl,(xI4_5 (v + x / 2 ^ i * 2 ^ g) (g + (8 - i)) (p + 1) 0 ?_ (by decide) (by lia) (by lia) ?_ rfl)⟩
      · have e1:Builtin.bitOr (v:Int) (((x / 2 ^ i:Nat):Int) * 2 ^ ((g:Int)).toNat) = ((v + x / 2 ^ i * 2 ^ g:Nat):Int):=by
          rw [<- bor_add (by rw [hv];exact Nat.mod_lt _ (Nat.two_pow_pos _))];congr 1
        have e2:((g:Int) + (8 - (i:Int))) = ((g + (8 - i):Nat):Int):=by lia
        rw [e1,e2];rfl
      · rw [hv]
        refine more_bits (B:=leVal b / 256 ^ p) (by exact oA125 hi) rfl ?_ (leVal_at h2 hx)
        rw [Nat.div_div_eq_div_mul,Nat.div_div_eq_div_mul,<- Nat.pow_add,show (256:Nat) = 2 ^ 8 from rfl,<- Nat.pow_mul,<- Nat.pow_add,hp]
  all_goals first | lia | (simp;done) | (rw [Nat.pow_zero,Nat.mod_one]) | skip
theorem peek_math (N pos count:Nat):N / 2 ^ (pos - min count pos) % 2 ^ min count pos * 2 ^ (count - min count pos) = N * 2 ^ count / 2 ^ pos % 2 ^ count:=by
  rcases Nat.le_total count pos with h | h
  · rw [Nat.min_eq_left h,Nat.sub_self,Nat.pow_zero,Nat.mul_one]
    congr 1
    have:2 ^ pos = 2 ^ (pos - count) * 2 ^ count:=by rw [<- Nat.pow_add];congr 1;exact oA262 h
    rw [this,Nat.mul_div_mul_right _ _ (Nat.two_pow_pos _)]
  · rw [Nat.min_eq_right h,Nat.sub_self,Nat.pow_zero,Nat.div_one]
    have e:2 ^ count = 2 ^ pos * 2 ^ (count - pos):=by rw [<- Nat.pow_add];congr 1;exact oA261 h
    have:N * 2 ^ count / 2 ^ pos = N * 2 ^ (count - pos):=by
      rw [e,Nat.mul_left_comm,Nat.mul_div_cancel_left _ (Nat.two_pow_pos _)]
    rw [this,e,Nat.mul_mod_mul_right]
theorem leVal_last:∀ {b:List Nat} {v:Nat},(∀ x ∈ b,x < 256) -> b.getLast? = some v -> 256 ^ (b.length - 1) * v <= leVal b /\ leVal b < 256 ^ (b.length - 1) * (v + 1)
  | [x],v,h,e => by
    cases e
    show 256 ^ 0 * x <= x + 256 * 0 /\ x + 256 * 0 < 256 ^ 0 * (x + 1)
    lia
  | x :: y :: r,v,h,e => by
    have h1:=h x (.head _)
    have h2:=leVal_last (b:=y :: r) (v:=v) (fun z hz=>h z (.tail _ hz)) (by rw [<- e];rfl)
    show 256 ^ (r.length + 1) * v <= x + 256 * leVal (y :: r) /\ x + 256 * leVal (y :: r) < 256 ^ (r.length + 1) * (v + 1)
    have e1:(y :: r).length - 1 = r.length:=rfl
    rw [e1] at h2
    rw [Nat.pow_succ,Nat.mul_comm (256 ^ r.length) 256,Nat.mul_assoc,Nat.mul_assoc]
    generalize 256 ^ r.length * v = A at h2 ⊢
    generalize 256 ^ r.length * (v + 1) = B at h2 ⊢
    exact oA344 h1 h2
theorem pow_uniq {a p q:Nat} (h1:2 ^ p <= a) (h2:a < 2 ^ (p + 1)) (h3:2 ^ q <= a) (h4:a < 2 ^ (q + 1)):p = q:=by
  rcases Nat.lt_trichotomy p q with h | h | h
  · have:=Nat.pow_le_pow_right (n:=2) (by decide) (show p + 1 <= q by exact oA204 h);exact oA360 h2 h3 this
  · exact h
  · have:=Nat.pow_le_pow_right (n:=2) (by decide) (show q + 1 <= p by exact oA204 h);exact oA364 h1 h4 this
noncomputable def clsFn (i j:Nat):FnTxt:=match (PySem.Challenge.pw_tg0039_01.main.body)[i]! with
  | .ClassDef _ _ _ body _ _ _ _ _ _ _ => fnTxt (body[j]!)
  | _ => ⟨⟨[],[],none,[],[],none,[]⟩,[],⟨.function,[],false,false,[]⟩⟩
structure Nm where
  (LR BR HT PR BT BC BA CS Pr fI:Addr)
noncomputable def NN:Nm:=⟨192,241,307,393,76,64,88,52,39,36⟩
noncomputable def excs:List Addr:=[NN.BT,NN.BC,NN.BA,NN.CS]
noncomputable abbrev Glob (G:Gl) (x:Str) (i:Nat):Prop:=∃ fa,G.mg x = some (.ref fa) /\ keepIn G.K (.ref fa) = true /\ Def G (topFn i) fa x x
noncomputable abbrev DefD (G:Gl) (t:FnTxt) (fa:Addr) (name qual:Str) (items:Array Value):Prop:=∃ T k oT doc pm an cdv ct,G.h₀.get? T = some oT /\ oT.data = .seq items k /\ FnRec G fa name qual t.params t.body t.scope (.ref T) .none doc pm an cdv ct
noncomputable def Fn (G:Gl) (x:Str) (n:Nat) (w:List V -> WV):Prop:=∃ fa,G.mg x = some (.ref fa) /\ keepIn G.K (.ref fa) = true /\ FnOk G n (.ref fa) w
noncomputable abbrev Mth (G:Gl) (C:Addr) (k:String) (q:Str) (i j:Nat):Prop:=∃ f,MethK G.K C (Str.ofString k) f /\ Def G (clsFn i j) f k q
noncomputable def Mt (G:Gl) (C:Addr) (k:String) (n:Nat) (w:List V -> WV):Prop:=∃ f,MethK G.K C (Str.ofString k) f /\ FnOk G n (.ref f) w
structure ClsK (G:Gl) (x:Str) (C fI:Addr):Prop where
  mg:G.mg x = some (.ref C)
  keep:keepIn G.K (.ref C) = true
  makes:makesIn G.K C = true
  init:findIn G.K (.ref C) "__init__" = some (some (.ref fI))
  fn:typeIn G.K (.ref fI) = some (.type "function")
noncomputable def lamQ:Str:=("_law_codes_right" : Str) ++ ".<locals>." ++ "<lambda>"
structure Facts (G:Gl):Prop where
  go:GlOk G
  nb:Miss G
  nd:(NN.Pr :: excs).Nodup
  exc:ExcAll G.K NN.Pr NN.fI excs
  excI:∃ v,DefD G (clsFn 2 0) NN.fI "__init__" "PressError.__init__" #[v]
  v_BadTable:G.mg "BadTable" = some (.ref NN.BT)
  v_BadCode:G.mg "BadCode" = some (.ref NN.BC)
  v_BadArgument:G.mg "BadArgument" = some (.ref NN.BA)
  v_CutShort:G.mg "CutShort" = some (.ref NN.CS)
  v_MOST_SYMBOLS:∃ t,G.mg "MOST_SYMBOLS" = some (.int 256 t)
  v_LONGEST_zhuff:∃ t,G.mg "LONGEST_zhuff" = some (.int 11 t)
  LRa:∀ k ∈ ["data", "stop", "position"],AttrK G.K NN.LR (Str.ofString k)
  BRa:∀ k ∈ ["data", "position"],AttrK G.K NN.BR (Str.ofString k)
  HTa:∀ k ∈ ["longest", "lengths", "groups", "codes"],AttrK G.K NN.HT (Str.ofString k)
  PRa:∀ k ∈ ["most", "counts", "symbols"],AttrK G.K NN.PR (Str.ofString k)
  LRc:∃ f v,ClsK G "LowReader" NN.LR f /\ DefD G (clsFn 11 0) f "__init__" "LowReader.__init__" #[v,.none] /\ er v = .int 0
  BRc:∃ f,ClsK G "BackReader" NN.BR f /\ Def G (clsFn 12 0) f "__init__" "BackReader.__init__"
  HTc:∃ f,ClsK G "HuffTable" NN.HT f /\ Def G (clsFn 18 0) f "__init__" "HuffTable.__init__"
  PRc:∃ f v u,ClsK G "PrefixReader" NN.PR f /\ DefD G (clsFn 29 0) f "__init__" "PrefixReader.__init__" #[v,u] /\ er u = .bool false
  LR_left:Mth G NN.LR "left" "LowReader.left" 11 1
  LR_peek:Mth G NN.LR "peek" "LowReader.peek" 11 2
  LR_skip:Mth G NN.LR "skip" "LowReader.skip" 11 3
  LR_bits:Mth G NN.LR "bits" "LowReader.bits" 11 4
  LR_bit:Mth G NN.LR "bit" "LowReader.bit" 11 5
  BR_left:Mth G NN.BR "left" "BackReader.left" 12 1
  BR_peek:Mth G NN.BR "peek" "BackReader.peek" 12 2
  BR_skip:Mth G NN.BR "skip" "BackReader.skip" 12 3
  HT_read:Mth G NN.HT "read" "HuffTable.read" 18 1
  HT_code:Mth G NN.HT "code" "HuffTable.code" 18 2
  PR_read:Mth G NN.PR "read" "PrefixReader.read" 29 1
  need_count:Glob G "need_count" 8
  end_of:Glob G "end_of" 9
  gathered:Glob G "gathered" 10
  used_symbols:Glob G "used_symbols" 16
  check_code:Glob G "check_code" 17
  decode_stream:Glob G "decode_stream" 19
  counts_by_length:Glob G "counts_by_length" 22
  room_of:Glob G "room_of" 23
  check_lengths:∃ fa v,G.mg "check_lengths" = some (.ref fa) /\ keepIn G.K (.ref fa) = true /\ DefD G (topFn 24) fa "check_lengths" "check_lengths" #[v]
  greatest_length:Glob G "greatest_length" 25
  first_codes:Glob G "first_codes" 26
  canonical:Glob G "canonical" 27
  by_length:Glob G "by_length" 28
  lw_box:Glob G "_law_box" 31
  lw_take:Glob G "_law_take" 32
  lw_lengths:Glob G "_law_lengths" 33
  lw_near:Glob G "_law_near" 34
  lw_whole:Glob G "_law_whole" 35
  lw_lets:Glob G "_law_lets" 36
  codesR:∃ fa cc doc pm an ct,G.mg "_law_codes_right" = some (.ref fa) /\ keepIn G.K (.ref fa) = true /\ FnRec G fa "_law_codes_right" "_law_codes_right" (topFn 37).params (topFn 37).body (topFn 37).scope .none .none doc pm an (.ref cc) ct /\ CodeHd G.h₀ cc G.P
  lams:∀ p ∈ G.lams,p.2 = lamQ
  lam1:(⟨322,0,322,22⟩,lamQ) ∈ G.lams
  lam2:(⟨323,0,323,35⟩,lamQ) ∈ G.lams
  lw_laid:Glob G "_law_laid" 38
  lw_till_cut:Glob G "_law_till_cut" 39
  lw_decoded:Glob G "_law_decoded" 40
  lw_read_right:Glob G "_law_read_right" 41
section
variable {G:Gl} {c:Cx} {n:Nat}
theorem Facts.in_BadTable (FX:Facts G):NN.BT ∈ excs:=.head _
theorem Facts.in_BadCode (FX:Facts G):NN.BC ∈ excs:=.tail _ (.head _)
theorem Facts.in_CutShort (FX:Facts G):NN.CS ∈ excs:=.tail _ (.tail _ (.tail _ (.head _)))
theorem r_fn (GO:GlOk G) {x:Str} {m:Nat} {w:List V -> WV} {l:WL} {np pos:Pos} {es:List Expr} (K:Fn G x m w) (C:CxOk G c) (hm:m <= n) (hl:SEs G c n es l) (hk:c.env.kindOf x = some .globalImplicit:=by rfl) (hd:(x == ("__debug__" : Str)) = false:=by decide)
    (hp:PlainArgs es:=by intro _ _;exact ⟨rfl,_,_,rfl⟩):SE G c n (.Call (.Name x np) es [] pos) (wCall w l):=by
  refine xA1_2 K ?_;(try clear K);intro fa h1 h2 h3
  exact r_call GO (r_glob GO C h1 hk hd) (.ref fa h2) (h3.call hm C) hl hp
theorem own_m (GO:GlOk G) (C:CxOk G c) {Cl:Addr} {k:String} {m:Nat} {w:List V -> WV} (M:Mt G Cl k m w) (hm:m <= n):MethOk G c n (Str.ofString k) (isInst Cl k) w:=by
  refine xA1_1 M ?_;(try clear M);intro f h1 h2
  exact own_meth GO C h1 h2 hm
theorem Glob.fn {x:Str} {i:Nat} {n:Nat} {w:List V -> WV} (g:Glob G x i) (h:∀ fa,Def G (topFn i) fa x x -> FnOk G n (.ref fa) w):Fn G x n w:=by
  refine xA1_2 g ?_;(try clear g);intro fa h1 h2 h3
  exact (xI1_2 fa h1 h2 (h fa h3))
theorem Mth.mt {C:Addr} {k:String} {q:Str} {i j n:Nat} {w:List V -> WV} (g:Mth G C k q i j) (h:∀ f,Def G (clsFn i j) f k q -> FnOk G n (.ref f) w):Mt G C k n w:=by
  refine xA1_1 g ?_;(try clear g);intro f h1 h2
  exact (xI1_1 f h1 (h f h2))
theorem ClsK.fn' (GO:GlOk G) {x:Str} {C fI:Addr} {n:Nat} {w:List V -> WV} (K:ClsK G x C fI) (h:FnOk G n (.ref fI) w):Fn G x (n + 1) (newW C w):=(xI1_2 C K.mg K.keep (fn_class GO K.makes K.init K.fn h))
theorem binds_dflt {fd:FuncData} {args:Args} {binds:List (Str × Value)} {T:Addr} {o:Obj} {items:Array Value} {n:Nat} {s:Shared} {k:Option (Array Value) -> Sem (List (Str × Value))} (ho:G.h₀.get? T = some o) (hs:o.data = .seq items n)
    (hb:G.h₀.StaysIn s.heap) (hd:fd.defaults = .ref T) (h₁:bindArgs fd args = seqItems? fd.defaults >>= k) (h₂:k (some items) = pure binds):BindsTo s fd args binds:=by
  exact .of_defaults hd (hb T o ho) hs h₁ h₂
theorem s_asgTc {es:List Expr} {k:Nat} {tpos pos:Pos} {e:Expr} {a:V -> WS} {w:WE} (ha:SA G c n (.Tuple es k tpos) a) (he:SE G c n e w)
    (hs:∀ env,swapsWithSole [.Tuple es k tpos] e pos.line env = pure false:=by intro _;rfl) (hw:swappedStores [.Tuple es k tpos] e c.env = pure none:=by rfl):SS G c n (.Assign [.Tuple es k tpos] e pos) (sAsgT a w):=fun A o s H ls Qn Qr X hA hst h =>
  Assign_Tuple (he.go hA hst h (fun v s1 H1 hs1 h1=>ha.go hA hs1 h1 (fun zz s2 ls2 H2 hs2 h2=>(xI2_1 ls2 H2 hs2 h2)) fun zz zz e=>e) fun zz zz e=>⟨ls,e⟩) (hs _) hw
theorem r_itemA {value slice:Expr} {pos:Pos} {a b:WE} {w:W2} (hg:GI G c n w) (ha:SE G c n value a) (hb:SE G c n slice b) (hs:∀ o i,subscripted slice false o i = operate [o,i] (getItem o i):=by intro _ _;with_unfolding_all rfl) :
    SE G c n (.Subscript value slice pos) (wBin w a b):=fun A o s H ls Q X hA hst h =>
  Subscript_ (ha.go hA hst h (fun x s1 H1 hs1 h1=>hb.go hA hs1 h1 (fun y s2 H2 hs2 h2=>by
    refine xA2_2 (hg A o s2 H2 ls Q X x y hA hs2 h2) ?_;intro T id hT hl hq
    exact kba_turn (value':=.Name "x" pos) (fun zz=>rfl) (subscriptTail_builtin hT hl hq (hs _ _) (fun zz=>rfl))) fun zz zz e=>e) fun zz zz e=>e)
theorem kn_free {names:List (Str × NameKind)} {fr:List (Str × Nat)} (h:names.all (fun p=>!(p.2 == .free) || fr.any (fun q=>q.1 == p.1)) = true):∀ p ∈ names,p.2 = .free -> ∃ i,(p.1,i) ∈ fr:=fun p hp hf=>by
  have h1:=List.all_eq_true.mp h p hp
  rw [hf] at h1
  have h2:fr.any (fun q=>q.1 == p.1) = true:=h1
  refine xA1_1 (List.any_eq_true.mp h2) ?_;intro q hq e
  exact ⟨q.2,by rw [<- eq_of_beq e];exact hq⟩
theorem slot_insert:Slot "list" "insert" "list.insert" :=
  .of (owner := "list") (n := "insert") (by rw [typeLookup_type,builtinLookup_eq_fast];kernel_rfl) (by decide +kernel) (by decide +kernel) (by decide +kernel)
    (by first | exact .inl (by decide +kernel) | exact .inr (by decide +kernel)) (by rw [isSubtype_type];kernel_rfl)
theorem slot_index:Slot "list" "index" "list.index" :=
  .of (owner := "list") (n := "index") (by rw [typeLookup_type,builtinLookup_eq_fast];kernel_rfl) (by decide +kernel) (by decide +kernel) (by decide +kernel)
    (by first | exact .inl (by decide +kernel) | exact .inr (by decide +kernel)) (by rw [isSubtype_type];kernel_rfl)
theorem ty_append:typeOf (.builtin "list.append") = pure (.type "method_descriptor"):=by show builtinType _ = _;rw [builtinType_eq_fast];kernel_rfl
theorem ty_insert:typeOf (.builtin "list.insert") = pure (.type "method_descriptor"):=by show builtinType _ = _;rw [builtinType_eq_fast];kernel_rfl
theorem ty_index:typeOf (.builtin "list.index") = pure (.type "method_descriptor"):=by show builtinType _ = _;rw [builtinType_eq_fast];kernel_rfl
theorem m_append (CO:CxOk G c):MethOk G c n (Str.ofString "append") isListV appW:=list_meth (id := "list.append") slot_list_append ty_append (app_ok CO)
theorem m_insert (CO:CxOk G c):MethOk G c n (Str.ofString "insert") isListV insW:=list_meth (id := "list.insert") slot_insert ty_insert (ins_ok CO)
theorem m_index (CO:CxOk G c):MethOk G c n (Str.ofString "index") isListV idxW:=list_meth (id := "list.index") slot_index ty_index idx_ok
theorem need' (FX:Facts G):Fn G "need_count" 3 needC:=FX.need_count.fn fun fa D=>need_ok FX.go FX.nb D
theorem endof' (FX:Facts G):Fn G "end_of" 3 endofC:=FX.end_of.fn fun fa D=>endof_ok FX.go FX.nb D
theorem gathered' (FX:Facts G):Fn G "gathered" 3 gatheredC:=FX.gathered.fn fun fa D=>gathered_ok FX.go D
theorem ne_of_mo {H:MH} {a b:Addr} {m m':MO} (h1:H a = some m) (h2:H b = some m') (h:m ≠ m'):a ≠ b:=fun e=>by
  subst e;rw [h1] at h2;cases h2;exact h rfl
theorem ne_of_none {H:MH} {a b:Addr} {m:MO} (h1:H a = some m) (h2:H b = none):a ≠ b:=fun e=>by
  subst e;rw [h1] at h2;cases h2
theorem Ext.at {H H':MH} {a:Addr} {m:MO} (x:Ext H H') (e:H a = some m):H' a = some m:=x a m e
theorem Fn.mono {x:Str} {n:Nat} {w w':List V -> WV} (h:Fn G x n w) (k:∀ vals Q X H,w' vals Q X H -> w vals Q X H):Fn G x n w':=by
  refine xA1_2 h ?_;(try clear h);intro fa h1 h2 h3
  exact (xI1_2 fa h1 h2 (fun c A o s H ls Q X args C hA hs hw=>h3 c A o s H ls Q X args C hA hs (k _ _ _ _ hw)))
theorem Ext.upd {H H1:MH} (x:Ext H H1) (a:Addr) (m:MO):Ext (upd H a m) (upd H1 a m):=fun b mo e=>by
  by_cases q:b = a
  · rw [q,upd_self] at e ⊢;exact e
  · rw [upd_ne _ _ q] at e ⊢;exact x b mo e
theorem Ext.fresh {H H1:MH} (x:Ext H H1) {a:Addr} {m:MO} (h:H a = none):Ext H (Mine.upd H1 a m):=fun b mo e=>by
  by_cases q:b = a
  · rw [q,h] at e;cases e
  · rw [upd_ne _ _ q];exact x b mo e
theorem made_at {H:MH} {x dx C:Addr} {m m':MO} (hx:H x = none) (hd:H dx = none) (hne:x ≠ dx):(upd (upd (upd H dx m) x (.inst C dx)) dx m') x = some (.inst C dx) /\ (upd (upd (upd H dx m) x (.inst C dx)) dx m') dx = some m' /\ Ext H (upd (upd (upd H dx m) x (.inst C dx)) dx m') :=
  (xI0_2 (by rw [upd_ne _ _ hne,upd_self]) (by rw [upd_self]) (((Ext.rfl.fresh hd).fresh hx).fresh hd))
theorem hSet_is {C x dx:Addr} {k:String} {H:MH} {Q:MH -> Prop} {es:List (String × V)} {u:V} (es':List (String × V)) (h1:H x = some (.inst C dx)) (h2:H dx = some (.attrs es)) (h:Q (upd H dx (.attrs es'))) (hz:es.length <= 900:=by exact Nat.le_of_ble_eq_true rfl) (ha:aput k u es = es':=by rfl):hSet C k (.ref x) u H Q :=
  hSet_of h1 h2 hz (ha ▸ h)
theorem exc_init (FX:Facts G):FnOk G 3 (.ref NN.fI) (initW excs):=by
  refine xA9_0 FX.excI ?_;intro v T k oT doc pm an cdv ct hT1;refine xA0_2 hT1 ?_;(try clear hT1);intro hT hd F
  have GO:=FX.go
  have NB:=FX.nb
  refine fn_plain (wb:=_) (names:=["self", "reason"]) (k:=2) (m:=0) (n:=2) GO F (by decide +kernel) (by decide) rfl (by decide +kernel) ?_ (fun L st C=>(b_cons (s_expr (r_vinit GO (r_blt GO C (v:=.type "ValueError") (NB _ (by decide)) rfl) (excinit_ok GO C FX.exc) (l_cons (r_loc C 0) (l_cons (r_loc C 1) l_nil))) rfl)
      (b_one (s_excReason GO C FX.exc (r_loc C 0) (r_loc C 1)))))
  intro s args Q X H hb h
  refine on2_k h fun u1 u2 hv h2=>onRef_k h2 fun x e1 h3=>onExc_k h3 fun C b hH h4=>?_
  clear h h2 h3
  subst hv e1
  refine xA0_2 h4 ?_;(try clear h4);intro hC hb' h
  subst hb'
  refine (xI1_2 [.ref x,u2] rfl (binds_dflt hT hd hb rfl rfl rfl) ?_)
  have hz:er u2 ≠ V.unb:=er_unb
  show fnW _ 0 [.ref x,er u2] Q X H
  refine bnd_mk hz (onExc_of hH (xI0_2 hC rfl ?_))
  exact bnd_mk hz (onExc_of hH (xI0_2 hC rfl h))
end
section
variable {G:Gl} {c:Cx} {n:Nat}
noncomputable def LRat (H:MH) (x dx:Addr) (b:List Nat) (pos:Int):Prop:=H x = some (.inst NN.LR dx) /\ H dx = some (.attrs [("data",.bytes b),("stop",.int b.length),("position",.int pos)])
noncomputable abbrev lrAttrs (b:List Nat) (pos:Int):MO:=.attrs [("data",.bytes b),("stop",.int b.length),("position",.int pos)]
section
variable {H:MH} {x dx:Addr} {b:List Nat} {pos:Int} {Q:V -> Prop}
theorem LRat.data (h:LRat H x dx b pos) (q:Q (.bytes b)):hAttr NN.LR "data" (.ref x) H Q:=hAttr_of h.1 h.2 rfl q
theorem LRat.stop (h:LRat H x dx b pos) (q:Q (.int b.length)):hAttr NN.LR "stop" (.ref x) H Q:=hAttr_of h.1 h.2 rfl q
theorem LRat.posn (h:LRat H x dx b pos) (q:Q (.int pos)):hAttr NN.LR "position" (.ref x) H Q:=hAttr_of h.1 h.2 rfl q
theorem LRat.set (h:LRat H x dx b pos) {p:Int} {Q:MH -> Prop} (q:Q (upd H dx (lrAttrs b p))):hSet NN.LR "position" (.ref x) (.int p) H Q:=hSet_of h.1 h.2 (Nat.le_of_ble_eq_true rfl) q
theorem LRat.inst (h:LRat H x dx b pos) {k:String} (hk:[("data",V.bytes b),("stop",.int b.length),("position",.int pos)].lookup k = none:=by rfl):isInst NN.LR k (.ref x) H:=(xI3_3 x dx _ rfl h.1 h.2 hk)
theorem LRat.ext (h:LRat H x dx b pos) {H':MH} (E:Ext H H'):LRat H' x dx b pos:=⟨E _ _ h.1,E _ _ h.2⟩
end
inductive lrleftC (args:List V) (Q:QV) (X:XP) (H:MH):Prop
  | mk (x dx b pos) (o1 : args = [.ref x]) (o2 : LRat H x dx b pos) (o3 : Q (.int (8 * b.length - pos)) H)
theorem lrleft' (FX:Facts G):Mt G NN.LR "left" 2 lrleftC:=FX.LR_left.mt fun f F=>by
  refine xA5_0 F ?_;(try clear F);intro doc pm an cdv ct F
  have GO:=FX.go
  have NB:=FX.nb
  refine fn_plain (wb:=_) (names:=["self"]) (k:=1) (m:=0) (n:=1) GO F (by decide +kernel) (by decide) rfl (by decide +kernel) ?_ (fun L st C=>(b_one (s_ret (r_bin o_sub (r_bin (o_mul C) r_int (r_attr GO (FX.LRa "stop" (by decide)) (r_loc C 0))) (r_attr GO (FX.LRa "position" (by decide)) (r_loc C 0))))))
  rintro s args Q X H hb ⟨x,dx,b,pos,h1,h2,h4⟩
  refine xA1_1 (map1 h1) ?_;intro u hT1;subst hT1;intro e
  refine (xI1_2 [u] rfl (.of_eq (by rfl)) ?_)
  show fnW _ 0 [er u] Q X H
  rw [e]
  exact h2.stop ⟨.inl ⟨by decide,by decide⟩,h2.posn h4⟩
inductive lrpeekC (args:List V) (Q:QV) (X:XP) (H:MH):Prop
  | mk (x dx b) (pos count : Nat) (o1 : args = [.ref x,.int count]) (o2 : LRat H x dx b pos) (o3 : ∀ x ∈ b,x < 256) (o4 : b.length <= 100000) (o5 : count <= 100) (o6 : ∀ H',Ext H H' -> Q (.int (leVal b / 2 ^ pos % 2 ^ count : Nat)) H')
theorem lrpeek' (FX:Facts G):Mt G NN.LR "peek" 4 lrpeekC:=FX.LR_peek.mt fun f F=>by
  refine xA5_0 F ?_;(try clear F);intro doc pm an cdv ct F
  have GO:=FX.go
  have NB:=FX.nb
  have h_need_count:=need' FX
  have h_gathered:=gathered' FX
  refine fn_plain (wb:=_) (names:=["self", "count"]) (k:=2) (m:=0) (n:=3) GO F (by decide +kernel) (by decide) rfl (by decide +kernel) ?_ (fun L st C=>(b_cons (s_expr (r_fn GO h_need_count C (by decide) (l_cons (r_loc C 1) l_nil)) rfl)
      (b_one (s_ret (r_fn GO h_gathered C (by decide) (l_cons (r_attr GO (FX.LRa "data" (by decide)) (r_loc C 0)) (l_cons (r_attr GO (FX.LRa "position" (by decide)) (r_loc C 0)) (l_cons (r_loc C 1) (l_cons (r_attr GO (FX.LRa "stop" (by decide)) (r_loc C 0)) l_nil)))))))))
  rintro s args Q X H hb ⟨x,dx,b,pos,count,h1,h2,h4,h5,h6,h7⟩
  refine xA2_2 (map2 h1) ?_;intro u v hT1;subst hT1;intro e1 e2
  refine (xI1_2 [u,v] rfl (.of_eq (by rfl)) ?_)
  show fnW _ 0 [er u,er v] Q X H
  rw [e1,e2]
  refine ⟨count,rfl,by exact oA63,⟨by exact oA53,by exact oA103 h6⟩,rfl,?_⟩
  exact h2.data (h2.posn (h2.stop ⟨b,pos,count,rfl,h4,h5,h6,h7⟩))
inductive lrskipC (args:List V) (Q:QV) (X:XP) (H:MH):Prop
  | mk (x dx b) (pos count : Nat) (o1 : args = [.ref x,.int count]) (o2 : LRat H x dx b pos) (o3 : b.length <= 100000) (o4 : count <= 100) (o5 : pos + count <= 8 * b.length -> Q .none (upd H dx (lrAttrs b (pos + count : Nat)))) (o6 : 8 * b.length < pos + count -> X NN.CS H)
theorem lrskip' (FX:Facts G):Mt G NN.LR "skip" 5 lrskipC:=FX.LR_skip.mt fun f F=>by
  refine xA5_0 F ?_;(try clear F);intro doc pm an cdv ct F
  have GO:=FX.go
  have NB:=FX.nb
  have h_need_count:=need' FX
  have h_LR_left:=lrleft' FX
  have h_exc:=exc_init FX
  refine fn_plain (wb:=_) (names:=["self", "count"]) (k:=2) (m:=0) (n:=4) GO F (by decide +kernel) (by decide) rfl (by decide +kernel) ?_ (fun L st C=>(b_cons (s_expr (r_fn GO h_need_count C (by decide) (l_cons (r_loc C 1) l_nil)) rfl)
      (b_cons (s_if (t_cmp1 o_gt (r_loc C 1) (r_meth0 GO (own_m GO C h_LR_left (by decide)) (r_loc C 0))) (b_one (s_raise GO C FX.exc (FX.in_CutShort) h_exc (by decide) (r_glob GO C FX.v_CutShort) (l_cons r_str l_nil))) b_nil)
      (b_one (s_augattr GO C (FX.LRa "position" (by decide)) o_iadd (r_loc C 0) (r_loc C 1))))))
  rintro s args Q X H hb ⟨x,dx,b,pos,count,h1,h2,h5,h6,h7,h8⟩
  refine xA2_2 (map2 h1) ?_;intro u v hT1;subst hT1;intro e1 e2
  refine (xI1_2 [u,v] rfl (.of_eq (by rfl)) ?_)
  show fnW _ 0 [er u,er v] Q X H
  rw [e1,e2]
  refine ⟨count,rfl,by exact oA63,⟨by exact oA53,by exact oA103 h6⟩,rfl,h2.inst,⟨x,dx,b,pos,rfl,h2,fun q=>?_,fun q=>?_⟩⟩
  · exact ⟨rfl,h8 (by lia)⟩
  exact h2.posn (h2.set (h7 (by lia)))
inductive lrbitsC (args:List V) (Q:QV) (X:XP) (H:MH):Prop
  | mk (x dx b) (pos count : Nat) (o1 : args = [.ref x,.int count]) (o2 : LRat H x dx b pos) (o3 : ∀ x ∈ b,x < 256) (o4 : b.length <= 100000) (o5 : count <= 100) (o6 : pos + count <= 8 * b.length -> ∀ H',Ext (upd H dx (lrAttrs b (pos + count : Nat))) H' -> Q (.int (leVal b / 2 ^ pos % 2 ^ count : Nat)) H') (o7 : 8 * b.length < pos + count -> ∀ H',Ext H H' -> X NN.CS H')
theorem lrbits' (FX:Facts G):Mt G NN.LR "bits" 6 lrbitsC:=FX.LR_bits.mt fun f F=>by
  refine xA5_0 F ?_;(try clear F);intro doc pm an cdv ct F
  have GO:=FX.go
  have NB:=FX.nb
  have h_LR_peek:=lrpeek' FX
  have h_LR_skip:=lrskip' FX
  refine fn_plain (wb:=_) (names:=["self", "count", "value"]) (k:=2) (m:=1) (n:=5) GO F (by decide +kernel) (by decide) rfl (by decide +kernel) ?_ (fun L st C=>(b_cons (s_asg C 2 (r_meth GO (own_m GO C h_LR_peek (by decide)) (r_loc C 0) (l_cons (r_loc C 1) l_nil)))
      (b_cons (s_expr (r_meth GO (own_m GO C h_LR_skip (by decide)) (r_loc C 0) (l_cons (r_loc C 1) l_nil)) rfl)
      (b_one (s_ret (r_loc C 2))))))
  rintro s args Q X H hb ⟨x,dx,b,pos,count,h1,h2,h4,h5,h6,h7,h8⟩
  refine xA2_2 (map2 h1) ?_;intro u v hT1;subst hT1;intro e1 e2
  refine (xI1_2 [u,v] rfl (.of_eq (by rfl)) ?_)
  show fnW _ 1 [er u,er v] Q X H
  rw [e1,e2]
  refine ⟨h2.inst,⟨ x,dx,b,pos,count,rfl,h2,h4,h5,h6,fun H1 E1=>?_⟩⟩
  refine ⟨(h2.ext E1).inst,⟨ x,dx,b,pos,count,rfl,h2.ext E1,h5,h6,fun q=>?_,fun q=>h8 q _ E1⟩⟩
  exact ⟨rfl,h7 q _ (E1.upd _ _)⟩
inductive lrbitC (args:List V) (Q:QV) (X:XP) (H:MH):Prop
  | mk (x dx b) (pos : Nat) (o1 : args = [.ref x]) (o2 : LRat H x dx b pos) (o3 : ∀ x ∈ b,x < 256) (o4 : b.length <= 100000) (o5 : pos + 1 <= 8 * b.length -> ∀ H',Ext (upd H dx (lrAttrs b (pos + 1 : Nat))) H' -> Q (.int (leVal b / 2 ^ pos % 2 : Nat)) H') (o6 : 8 * b.length < pos + 1 -> ∀ H',Ext H H' -> X NN.CS H')
theorem lrbit' (FX:Facts G):Mt G NN.LR "bit" 7 lrbitC:=FX.LR_bit.mt fun f F=>by
  refine xA5_0 F ?_;(try clear F);intro doc pm an cdv ct F
  have GO:=FX.go
  have NB:=FX.nb
  have h_LR_bits:=lrbits' FX
  refine fn_plain (wb:=_) (names:=["self"]) (k:=1) (m:=0) (n:=6) GO F (by decide +kernel) (by decide) rfl (by decide +kernel) ?_ (fun L st C=>(b_one (s_ret (r_meth GO (own_m GO C h_LR_bits (by decide)) (r_loc C 0) (l_cons r_int l_nil)))))
  rintro s args Q X H hb ⟨x,dx,b,pos,h1,h2,h4,h5,h7,h8⟩
  refine xA1_1 (map1 h1) ?_;intro u hT1;subst hT1;intro e
  refine (xI1_2 [u] rfl (.of_eq (by rfl)) ?_)
  show fnW _ 0 [er u] Q X H
  rw [e]
  exact ⟨h2.inst,⟨ x,dx,b,pos,1,rfl,h2,h4,h5,by decide,h7,h8⟩⟩
inductive lrinitC (args:List V) (Q:QV) (X:XP) (H:MH):Prop
  | mk (x dx b) (o1 : args = [.ref x,.bytes b]) (o2 : H x = some (.inst NN.LR dx)) (o3 : H dx = some (.attrs [])) (o4 : b.length <= 100000) (o5 : Q .none (upd H dx (lrAttrs b 0)))
theorem lrinit (FX:Facts G) {f:Addr} {v:Value} (hv:er v = .int 0) (F:DefD G (clsFn 11 0) f "__init__" "LowReader.__init__" #[v,.none]):FnOk G 4 (.ref f) lrinitC:=by
  refine xA8_0 F ?_;(try clear F);intro T k oT doc pm an cdv ct hT1;refine xA0_2 hT1 ?_;(try clear hT1);intro hT hd F
  have GO:=FX.go
  have NB:=FX.nb
  have h_end_of:=endof' FX
  refine fn_plain (wb:=_) (names:=["self", "octets", "start", "end"]) (k:=4) (m:=0) (n:=3) GO F (by decide +kernel) (by decide) rfl (by decide +kernel) ?_ (fun L st C=>(b_cons (s_attr GO C (FX.LRa "data" (by decide)) (r_loc C 0) (r_call GO (r_blt GO C (v:=.type "bytes") (NB _ (by decide)) rfl) (.type _) bytes_ok (l_cons (r_loc C 1) l_nil)))
      (b_cons (s_attr GO C (FX.LRa "stop" (by decide)) (r_loc C 0) (r_fn GO h_end_of C (by decide) (l_cons (r_attr GO (FX.LRa "data" (by decide)) (r_loc C 0)) (l_cons (r_loc C 2) (l_cons (r_loc C 3) l_nil)))))
      (b_one (s_attr GO C (FX.LRa "position" (by decide)) (r_loc C 0) (r_bin (o_mul C) r_int (r_loc C 2)))))))
  rintro s args Q X H hb ⟨x,dx,b,h1,h2,h3,h5,h6⟩
  refine xA2_2 (map2 h1) ?_;intro u1 u2 hT1;subst hT1;intro e1 e2
  refine (xI1_2 [u1,u2,v,.none] rfl (binds_dflt hT hd hb rfl rfl rfl) ?_)
  show fnW _ 0 [er u1,er u2,er v,.none] Q X H
  rw [e1,e2,hv]
  have hne:x ≠ dx:=ne_of_mo h2 h3 (by intro q;cases q)
  refine hSet_of h2 h3 (Nat.le_of_ble_eq_true rfl) (hAttr_of ((upd_ne _ _ hne).trans h2) (upd_self _ _ _) rfl ⟨b,rfl,h5,?_⟩)
  refine hSet_of ((upd_ne _ _ hne).trans h2) (upd_self _ _ _) (Nat.le_of_ble_eq_true rfl) ⟨.inl ⟨by decide,by decide⟩,?_⟩
  refine hSet_of ((upd_ne _ _ hne).trans ((upd_ne _ _ hne).trans h2)) (upd_self _ _ _) (Nat.le_of_ble_eq_true rfl) ?_
  rw [upd_upd,upd_upd]
  exact h6
inductive lrclassC (args:List V) (Q:QV) (X:XP) (H:MH):Prop
  | mk (b) (o1 : args = [.bytes b]) (o2 : b.length <= 100000) (o3 : ∀ x dx H',H x = none -> H dx = none -> LRat H' x dx b 0 -> Ext H H' -> Q (.ref x) H')
theorem lrclass' (FX:Facts G):Fn G "LowReader" 5 lrclassC:=by
  refine xA2_2 FX.LRc ?_;intro f v K F hv
  refine (K.fn' FX.go (lrinit FX hv F)).mono ?_
  rintro vals Q X H ⟨b,rfl,h5,h6⟩ dx x hd hx hne
  refine ⟨x,dx,b,rfl,by rw [upd_self],by rw [upd_ne _ _ hne.symm,upd_self],h5,rfl,?_⟩
  refine xA0_2 (made_at (C:=NN.LR) (m:=.attrs []) (m':=lrAttrs b 0) hx hd hne) ?_;intro g1 g2 g3
  exact h6 x dx _ hx hd ⟨g1,g2⟩ g3
end
section
variable {G:Gl} {c:Cx} {n:Nat}
noncomputable abbrev brAttrs (b:List Nat) (pos:Int):MO:=.attrs [("data",.bytes b),("position",.int pos)]
noncomputable def BRat (H:MH) (x dx:Addr) (b:List Nat) (pos:Int):Prop:=H x = some (.inst NN.BR dx) /\ H dx = some (brAttrs b pos)
section
variable {H:MH} {x dx:Addr} {b:List Nat} {pos:Int} {Q:V -> Prop}
theorem BRat.data (h:BRat H x dx b pos) (q:Q (.bytes b)):hAttr NN.BR "data" (.ref x) H Q:=hAttr_of h.1 h.2 rfl q
theorem BRat.posn (h:BRat H x dx b pos) (q:Q (.int pos)):hAttr NN.BR "position" (.ref x) H Q:=hAttr_of h.1 h.2 rfl q
theorem BRat.set (h:BRat H x dx b pos) {p:Int} {Q:MH -> Prop} (q:Q (upd H dx (brAttrs b p))):hSet NN.BR "position" (.ref x) (.int p) H Q:=hSet_of h.1 h.2 (Nat.le_of_ble_eq_true rfl) q
theorem BRat.inst (h:BRat H x dx b pos) {k:String} (hk:[("data",V.bytes b),("position",.int pos)].lookup k = none:=by rfl):isInst NN.BR k (.ref x) H:=(xI3_3 x dx _ rfl h.1 h.2 hk)
theorem BRat.ext (h:BRat H x dx b pos) {H':MH} (E:Ext H H'):BRat H' x dx b pos:=⟨E _ _ h.1,E _ _ h.2⟩
end
inductive brleftC (args:List V) (Q:QV) (X:XP) (H:MH):Prop
  | mk (x dx b pos) (o1 : args = [.ref x]) (o2 : BRat H x dx b pos) (o3 : Q (.int pos) H)
theorem brleft' (FX:Facts G):Mt G NN.BR "left" 2 brleftC:=FX.BR_left.mt fun f F=>by
  refine xA5_0 F ?_;(try clear F);intro doc pm an cdv ct F
  have GO:=FX.go
  have NB:=FX.nb
  refine fn_plain (wb:=_) (names:=["self"]) (k:=1) (m:=0) (n:=1) GO F (by decide +kernel) (by decide) rfl (by decide +kernel) ?_ (fun L st C=>(b_one (s_ret (r_attr GO (FX.BRa "position" (by decide)) (r_loc C 0)))))
  rintro s args Q X H hb ⟨x,dx,b,pos,h1,h2,h4⟩
  refine xA1_1 (map1 h1) ?_;intro u hT1;subst hT1;intro e
  refine (xI1_2 [u] rfl (.of_eq (by rfl)) ?_)
  show fnW _ 0 [er u] Q X H
  rw [e]
  exact h2.posn h4
inductive brskipC (args:List V) (Q:QV) (X:XP) (H:MH):Prop
  | mk (x dx b pos) (count : Nat) (o1 : args = [.ref x,.int count]) (o2 : BRat H x dx b pos) (o3 : count <= 100) (o4 : Q .none (upd H dx (brAttrs b (pos - count))))
theorem brskip' (FX:Facts G):Mt G NN.BR "skip" 4 brskipC:=FX.BR_skip.mt fun f F=>by
  refine xA5_0 F ?_;(try clear F);intro doc pm an cdv ct F
  have GO:=FX.go
  have NB:=FX.nb
  have h_need_count:=need' FX
  refine fn_plain (wb:=_) (names:=["self", "count"]) (k:=2) (m:=0) (n:=3) GO F (by decide +kernel) (by decide) rfl (by decide +kernel) ?_ (fun L st C=>(b_cons (s_expr (r_fn GO h_need_count C (by decide) (l_cons (r_loc C 1) l_nil)) rfl)
      (b_one (s_augattr GO C (FX.BRa "position" (by decide)) o_isub (r_loc C 0) (r_loc C 1)))))
  rintro s args Q X H hb ⟨x,dx,b,pos,count,h1,h2,h4,h5⟩
  refine xA2_2 (map2 h1) ?_;intro u v hT1;subst hT1;intro e1 e2
  refine (xI1_2 [u,v] rfl (.of_eq (by rfl)) ?_)
  show fnW _ 0 [er u,er v] Q X H
  rw [e1,e2]
  exact ⟨count,rfl,by exact oA63,⟨by exact oA53,by exact oA103 h4⟩,rfl,h2.posn (h2.set h5)⟩
inductive brpeekC (args:List V) (Q:QV) (X:XP) (H:MH):Prop
  | mk (x dx b) (pos count : Nat) (o1 : args = [.ref x,.int count]) (o2 : BRat H x dx b pos) (o3 : ∀ x ∈ b,x < 256) (o4 : b.length <= 100000) (o5 : count <= 62) (o6 : pos <= 8 * b.length) (o7 : ∀ H',Ext H H' -> Q (.int (leVal b * 2 ^ count / 2 ^ pos % 2 ^ count : Nat)) H')
theorem brpeek' (FX:Facts G):Mt G NN.BR "peek" 4 brpeekC:=FX.BR_peek.mt fun f F=>by
  refine xA5_0 F ?_;(try clear F);intro doc pm an cdv ct F
  have GO:=FX.go
  have NB:=FX.nb
  have h_need_count:=need' FX
  have h_gathered:=gathered' FX
  refine fn_plain (wb:=_) (names:=["self", "count", "here", "value"]) (k:=2) (m:=2) (n:=3) GO F (by decide +kernel) (by decide) rfl (by decide +kernel) ?_ (fun L st C=>(b_cons (s_expr (r_fn GO h_need_count C (by decide) (l_cons (r_loc C 1) l_nil)) rfl)
      (b_cons (s_asg C 2 (r_call GO (r_blt GO C (v:=.builtin "min") (NB _ (by decide)) rfl) (.blt _) (min_ok C) (l_cons (r_loc C 1) (l_cons (r_call GO (r_blt GO C (v:=.builtin "max") (NB _ (by decide)) rfl) (.blt _) (max_ok C) (l_cons r_int (l_cons (r_attr GO (FX.BRa "position" (by decide)) (r_loc C 0)) l_nil))) l_nil))))
      (b_cons (s_asg C 3 (r_ifexp (t_cmp1 o_gt (r_loc C 2) r_int) (r_fn GO h_gathered C (by decide) (l_cons (r_attr GO (FX.BRa "data" (by decide)) (r_loc C 0)) (l_cons (r_bin o_sub (r_attr GO (FX.BRa "position" (by decide)) (r_loc C 0)) (r_loc C 2)) (l_cons (r_loc C 2) (l_cons (r_call GO (r_blt GO C (v:=.builtin "len") (NB _ (by decide)) rfl) (.blt _) len_ok (l_cons (r_attr GO (FX.BRa "data" (by decide)) (r_loc C 0)) l_nil)) l_nil))))) r_int))
      (b_one (s_ret (r_bin o_shl (r_loc C 3) (r_bin o_sub (r_loc C 1) (r_loc C 2)))))))))
  rintro s args Q X H hb ⟨x,dx,b,pos,count,h1,h2,h4,h5,h6,h7,h8⟩
  refine xA2_2 (map2 h1) ?_;intro u v hT1;subst hT1;intro e1 e2
  refine (xI1_2 [u,v] rfl (.of_eq (by rfl)) ?_)
  show fnW _ 2 [er u,er v] Q X H
  rw [e1,e2]
  refine ⟨count,rfl,by exact oA63,⟨by exact oA53,by lia⟩,rfl,h2.posn ?_⟩
  have e1:min (count:Int) (max 0 (pos:Int)) = ((min count pos:Nat):Int):=by lia
  have hm:min count pos <= count:=Nat.min_le_left _ _
  have hp:min count pos <= pos:=Nat.min_le_right _ _
  have key:=peek_math (leVal b) pos count
  generalize min count pos = h at e1 hm hp key
  have fin:∀ y:Nat,y = leVal b / 2 ^ (pos - h) % 2 ^ h -> ∀ H',Ext H H' -> (small (y:Int) /\ (0:Int) <= (count:Int) - min (count:Int) (max 0 (pos:Int)) /\ (count:Int) - min (count:Int) (max 0 (pos:Int)) <= 1000) /\ Q (.int ((y:Int) * 2 ^ ((count:Int) - min (count:Int) (max 0 (pos:Int))).toNat)) H':=fun y hy H' E=>by
    have hy2:y < 2 ^ 62:=by
      rw [hy]
      exact Nat.lt_of_lt_of_le (Nat.mod_lt _ (Nat.two_pow_pos _)) (Nat.pow_le_pow_right (by decide) (by exact oA242 h6 hm))
    rw [e1]
    refine ⟨(xI0_2 ⟨by exact oA53,by exact oA91 hy2⟩ (by exact oA251 hm) (by lia)),?_⟩
    have e2:((count:Int) - h).toNat = count - h:=by exact oA146
    have e3:(y:Int) * 2 ^ (count - h) = ((leVal b * 2 ^ count / 2 ^ pos % 2 ^ count:Nat):Int):=by
      rw [<- key,<- hy];simp
    rw [e2,e3]
    exact h8 H' E
  refine ⟨fun q=>h2.data (h2.posn (h2.data ⟨h5,⟨b,pos - h,h,?_,h4,h5,by lia,fun H' E=>fin _ rfl H' E⟩⟩)),fun q=>fin 0 ?_ H Ext.rfl⟩
  · show [V.bytes b,V.int ((pos:Int) - min (count:Int) (max 0 (pos:Int))),V.int (min (count:Int) (max 0 (pos:Int))),V.int b.length] = _
    have:(pos:Int) - h = ((pos - h:Nat):Int):=by exact oA248 hp
    rw [e1,this]
  · have hz:h = 0:=by lia
    rw [hz,Nat.pow_zero,Nat.mod_one]
inductive brinitC (args:List V) (Q:QV) (X:XP) (H:MH):Prop
  | mk (x dx b) (p : Nat) (o1 : args = [.ref x,.bytes b]) (o2 : H x = some (.inst NN.BR dx)) (o3 : H dx = some (.attrs [])) (o4 : ∀ x ∈ b,x < 256) (o5 : b.length <= 100000) (o6 : ∃ v,b.getLast? = some v /\ 0 < v) (o7 : 2 ^ p <= leVal b) (o8 : leVal b < 2 ^ (p + 1)) (o9 : Q .none (upd H dx (brAttrs b p)))
theorem brinit (FX:Facts G) {f:Addr} (F:Def G (clsFn 12 0) f "__init__" "BackReader.__init__"):FnOk G 4 (.ref f) brinitC:=by
  refine xA5_0 F ?_;(try clear F);intro doc pm an cdv ct F
  have GO:=FX.go
  have NB:=FX.nb
  have h_exc:=exc_init FX
  refine fn_plain (wb:=_) (names:=["self", "octets"]) (k:=2) (m:=0) (n:=3) GO F (by decide +kernel) (by decide) rfl (by decide +kernel) ?_ (fun L st C=>(b_cons (s_attr GO C (FX.BRa "data" (by decide)) (r_loc C 0) (r_call GO (r_blt GO C (v:=.type "bytes") (NB _ (by decide)) rfl) (.type _) bytes_ok (l_cons (r_loc C 1) l_nil)))
      (b_cons (s_if (t_bool (t_or1 (t_cmp1 o_eq (r_call GO (r_blt GO C (v:=.builtin "len") (NB _ (by decide)) rfl) (.blt _) len_ok (l_cons (r_attr GO (FX.BRa "data" (by decide)) (r_loc C 0)) l_nil)) r_int) (t_or1 (t_cmp1 o_eq (r_itemA gi_ok (r_attr GO (FX.BRa "data" (by decide)) (r_loc C 0)) (r_un o_neg r_int)) r_int) t_or0))) (b_one s_never) b_nil)
      (b_one (s_attr GO C (FX.BRa "position" (by decide)) (r_loc C 0) (r_bin o_sub (r_bin o_add (r_bin (o_mul C) r_int (r_bin o_sub (r_call GO (r_blt GO C (v:=.builtin "len") (NB _ (by decide)) rfl) (.blt _) len_ok (l_cons (r_attr GO (FX.BRa "data" (by decide)) (r_loc C 0)) l_nil)) r_int)) (r_meth0 GO bl_meth (r_itemA gi_ok (r_attr GO (FX.BRa "data" (by decide)) (r_loc C 0)) (r_un o_neg r_int)))) r_int))))))
  rintro s args Q X H hb ⟨x,dx,b,p,h1,h2,h3,h4,h5,⟨v,h6,h7⟩,h8,h9,h10⟩
  refine xA2_2 (map2 h1) ?_;intro u1 u2 hT1;subst hT1;intro e1 e2
  refine (xI1_2 [u1,u2] rfl (.of_eq (by rfl)) ?_)
  show fnW _ 0 [er u1,er u2] Q X H
  rw [e1,e2]
  have hne:x ≠ dx:=ne_of_mo h2 h3 (by intro q;cases q)
  have hlen:0 < b.length:=by
    cases b with
    | nil => cases h6
    | cons a r => exact Nat.succ_pos _
  have hv:v < 256:=h4 v (List.mem_of_getLast? h6)
  have hpos:(8 * ((b.length:Int) - 1) + (Builtin.Int.intBits (v:Int):Nat) - 1) = (p:Int):=by
    have e:Builtin.Int.intBits (v:Int) = v.log2 + 1:=by
      unfold Builtin.Int.intBits
      rw [if_neg (by simp;exact oA61 h7)];rfl
    have g1:=Nat.log2_self_le (n:=v) (by exact oA60 h7)
    have g2:=Nat.lt_log2_self (n:=v)
    refine xA0_1 (leVal_last h4 h6) ?_;intro g3 g4
    have k1:2 ^ (8 * (b.length - 1) + v.log2) <= leVal b:=by
      refine Nat.le_trans ?_ g3
      rw [Nat.pow_add,Nat.pow_mul]
      exact Nat.mul_le_mul_left _ g1
    have k2:leVal b < 2 ^ (8 * (b.length - 1) + v.log2 + 1):=by
      refine Nat.lt_of_lt_of_le g4 ?_
      rw [Nat.add_assoc,Nat.pow_add,Nat.pow_mul]
      exact Nat.mul_le_mul_left _ (by exact oA204 g2)
    have:=pow_uniq h8 h9 k1 k2
    rw [e];lia
  have hi:=(upd_ne H (.attrs (aput "data" (.bytes b) [])) hne).trans h2
  refine hSet_of h2 h3 (Nat.le_of_ble_eq_true rfl) ?_
  refine hAttr_of hi (upd_self _ _ _) rfl (xI0_2 h5 (fun q=>?_) (fun zz=>?_))
  · have:=(show (b.length:Int) = 0 from q);lia
  refine hAttr_of hi (upd_self _ _ _) rfl ⟨h5,.inr ⟨rfl,(xI1_2 v h6 (fun q=>?_) (fun zz=>?_))⟩⟩
  · have:=(show (v:Int) = 0 from q);lia
  refine hAttr_of hi (upd_self _ _ _) rfl (xI0_2 h5 (.inl ⟨by decide,by decide⟩) ?_)
  refine hAttr_of hi (upd_self _ _ _) rfl ⟨h5,.inr ⟨rfl,(xI1_2 v h6 ⟨_,rfl⟩ ?_)⟩⟩
  refine hSet_of hi (upd_self _ _ _) (Nat.le_of_ble_eq_true rfl) ?_
  show Q .none (upd (upd H dx _) dx (.attrs [("data",.bytes b),("position",.int (8 * ((b.length:Int) - 1) + (Builtin.Int.intBits (v:Int):Nat) - 1))]))
  rw [hpos,upd_upd];exact h10
inductive brclassC (args:List V) (Q:QV) (X:XP) (H:MH):Prop
  | mk (b) (p : Nat) (o1 : args = [.bytes b]) (o2 : ∀ x ∈ b,x < 256) (o3 : b.length <= 100000) (o4 : ∃ v,b.getLast? = some v /\ 0 < v) (o5 : 2 ^ p <= leVal b) (o6 : leVal b < 2 ^ (p + 1)) (o7 : ∀ x dx H',H x = none -> H dx = none -> BRat H' x dx b p -> Ext H H' -> Q (.ref x) H')
theorem brclass' (FX:Facts G):Fn G "BackReader" 5 brclassC:=by
  refine xA1_1 FX.BRc ?_;intro f K F
  refine (K.fn' FX.go (brinit FX F)).mono ?_
  rintro vals Q X H ⟨b,p,rfl,h4,h5,hv,h8,h9,h6⟩ dx x hd hx hne
  refine ⟨x,dx,b,p,rfl,by rw [upd_self],by rw [upd_ne _ _ hne.symm,upd_self],h4,h5,hv,h8,h9,rfl,?_⟩
  refine xA0_2 (made_at (C:=NN.BR) (m:=.attrs []) (m':=brAttrs b p) hx hd hne) ?_;intro g1 g2 g3
  exact h6 x dx _ hx hd ⟨g1,g2⟩ g3
end
noncomputable def cnt (ns:List Int) (l:Nat):Nat:=ns.count (l:Int)
noncomputable def u (ns:List Int):Nat -> Nat
  | 0 => 0
  | l + 1 => 2 * u ns l + cnt ns (l + 1)
noncomputable def pl (ns:List Int):Nat -> Nat
  | 0 => 0
  | l + 1 => pl ns l + cnt ns (l + 1)
noncomputable def idx:List Int -> Int -> Nat -> List Nat
  | [],_,_ => []
  | x :: r,l,s => if x = l then s :: idx r l (s + 1) else idx r l (s + 1)
noncomputable def psum (M:Nat):List Int -> Nat
  | [] => 0
  | x :: r => (if 0 < x then 2 ^ (M - x.toNat) else 0) + psum M r
noncomputable def mx (ns:List Int):Int:=ns.foldl (fun m k=>if m < k then k else m) 0
noncomputable def inRange (ns:List Int):Prop:=∀ x ∈ ns,0 <= x /\ x <= 11
noncomputable def whole (ns:List Int):Prop:=inRange ns /\ u ns 11 = 2048
noncomputable def st (ns:List Int) (l:Nat):Nat:=2 ^ l - u ns l
theorem cnt_cons (x:Int) (r:List Int) (l:Nat):cnt (x :: r) l = cnt r l + (if x = (l:Int) then 1 else 0):=by
  unfold cnt
  rw [List.count_cons]
  congr 1
  simp
theorem u_nil:∀ l,u [] l = 0
  | 0 => rfl
  | l + 1 => by show 2 * u [] l + cnt [] (l + 1) = 0;rw [u_nil l];rfl
theorem u_cons (x:Int) (r:List Int):∀ l:Nat,u (x :: r) l = u r l + (if 0 < x /\ x <= (l:Int) then 2 ^ (l - x.toNat) else 0)
  | 0 => by
    have:¬ (0 < x /\ x <= ((0:Nat):Int)):=by lia
    rw [if_neg this];rfl
  | l + 1 => by
    show 2 * u (x :: r) l + cnt (x :: r) (l + 1) = 2 * u r l + cnt r (l + 1) + _
    rw [u_cons x r l,cnt_cons]
    by_cases h1:0 < x /\ x <= (l:Int)
    · have h2:0 < x /\ x <= ((l + 1:Nat):Int):=by exact oA0 h1
      have h3:¬ x = ((l + 1:Nat):Int):=by omega
      rw [if_pos h1,if_pos h2,if_neg h3]
      have:l + 1 - x.toNat = (l - x.toNat) + 1:=by lia
      rw [this,Nat.pow_succ];exact oA280
    · by_cases h3:x = ((l + 1:Nat):Int)
      · have h2:0 < x /\ x <= ((l + 1:Nat):Int):=by exact oA4 h3
        rw [if_neg h1,if_pos h2,if_pos h3]
        have:l + 1 - x.toNat = 0:=by omega
        rw [this,Nat.pow_zero];exact oA166
      · have h2:¬ (0 < x /\ x <= ((l + 1:Nat):Int)):=by lia
        rw [if_neg h1,if_neg h2,if_neg h3];exact oA165
theorem psum_eq (M:Nat):∀ {ns:List Int},(∀ x ∈ ns,x <= (M:Int)) -> psum M ns = u ns M
  | [],_ => (u_nil M).symm
  | x :: r,h => by
    have h1:=h x (.head _)
    show (if 0 < x then 2 ^ (M - x.toNat) else 0) + psum M r = _
    rw [psum_eq M fun y hy=>h y (.tail _ hy),u_cons,Nat.add_comm]
    congr 1
    by_cases q:0 < x
    · rw [if_pos q,if_pos ⟨q,h1⟩]
    · rw [if_neg q,if_neg fun z=>q z.1]
theorem cnt_none {ns:List Int} {M:Int} (h:∀ x ∈ ns,x <= M) {l:Nat} (hl:M < l):cnt ns l = 0:=by
  unfold cnt
  exact List.count_eq_zero.mpr fun q=>by have:=h _ q;lia
theorem u_top {ns:List Int} {M:Nat} (h:∀ x ∈ ns,x <= (M:Int)):∀ k,u ns (M + k) = u ns M * 2 ^ k
  | 0 => by simp
  | k + 1 => by
    show 2 * u ns (M + k) + cnt ns (M + k + 1) = _
    rw [u_top h k,cnt_none h (by exact oA152),Nat.pow_succ,Nat.add_zero,Nat.mul_left_comm,Nat.mul_comm 2 (2 ^ k)]
theorem u_up (ns:List Int) (l:Nat):∀ k,u ns l * 2 ^ k <= u ns (l + k)
  | 0 => by simp
  | k + 1 => by
    show _ <= 2 * u ns (l + k) + cnt ns (l + k + 1)
    have:=u_up ns l k
    rw [Nat.pow_succ,<- Nat.mul_assoc];exact oA324 this
theorem whole_le {ns:List Int} (h:whole ns) {l:Nat} (hl:l <= 11):u ns l <= 2 ^ l:=by
  have h1:=u_up ns l (11 - l)
  have h2:l + (11 - l) = 11:=by exact oA108 hl
  rw [h2,h.2,show (2048:Nat) = 2 ^ l * 2 ^ (11 - l) by rw [<- Nat.pow_add,h2]] at h1
  exact Nat.le_of_mul_le_mul_right h1 (Nat.two_pow_pos _)
theorem st_step {ns:List Int} (h:whole ns) {l:Nat} (hl:l < 11):st ns (l + 1) + cnt ns (l + 1) = 2 * st ns l:=by
  have h1:=whole_le h (l:=l + 1) (by exact oA89 hl)
  have h2:=whole_le h (l:=l) (by exact oA90 hl)
  unfold st
  have e:u ns (l + 1) = 2 * u ns l + cnt ns (l + 1):=rfl
  rw [Nat.pow_succ] at *
  exact oA350 h1 e
theorem st_0 (ns:List Int):st ns 0 = 1:=rfl
theorem st_11 {ns:List Int} (h:whole ns):st ns 11 = 0:=by
  unfold st;rw [h.2]
theorem half_div (X:Nat) {l:Nat} (hl:l < 11):X / 2 ^ (11 - l) = X / 2 ^ (11 - (l + 1)) / 2:=by
  have e:2 ^ (11 - l) = 2 ^ (11 - (l + 1)) * 2:=by rw [<- Nat.pow_succ,show (11 - (l + 1)).succ = 11 - l by lia]
  rw [Nat.div_div_eq_div_mul,e]
theorem find_code {ns:List Int} (h:whole ns) {X:Nat} (hX:X < 2048):∃ l j,1 <= l /\ l <= 11 /\ j < cnt ns l /\ X / 2 ^ (11 - l) = st ns l + j:=by
  have go:∀ k,k <= 11 -> st ns (11 - k) <= X / 2 ^ (11 - (11 - k)) ∨ ∃ l j,1 <= l /\ l <= 11 /\ j < cnt ns l /\ X / 2 ^ (11 - l) = st ns l + j:=fun k=>by
    induction k with
    | zero => intro _;left;rw [Nat.sub_zero,st_11 h];exact Nat.zero_le _
    | succ k ih =>
      intro hk
      rcases ih (by exact oA86 hk) with g | g
      · have e:11 - k = (11 - (k + 1)) + 1:=by lia
        generalize hm:11 - (k + 1) = m at *
        rw [e] at g
        have s:=st_step h (l:=m) (by exact oA164 e)
        have d:=half_div X (l:=m) (by exact oA164 e)
        by_cases q:st ns m <= X / 2 ^ (11 - m)
        · exact .inl q
        · right
          refine (xI2_3 (m + 1) (X / 2 ^ (11 - (m + 1)) - st ns (m + 1)) (by exact oA68) (by exact oA163 e) ?_ (by exact oA322 g))
          rw [d] at q
          exact oA362 g s q
      · exact .inr g
  rcases go 11 (by lia) with g | g
  · rw [Nat.sub_self,st_0,Nat.sub_zero] at g
    have:X / 2 ^ 11 = 0:=Nat.div_eq_of_lt hX
    lia
  · exact g
theorem above {ns:List Int} (h:whole ns) {X l:Nat} (hq:st ns l <= X / 2 ^ (11 - l)):∀ k,l + k <= 11 -> st ns (l + k) <= X / 2 ^ (11 - (l + k))
  | 0,_ => hq
  | k + 1,hk => by
    have h1:=above h hq k (by exact oA172 hk)
    have s:=st_step h (l:=l + k) (by exact oA171 hk)
    rw [half_div X (by exact oA171 hk)] at h1
    show st ns (l + k + 1) <= X / 2 ^ (11 - (l + k + 1))
    exact oA361 h1 s
theorem before {ns:List Int} {Y l:Nat} (hl:l <= 11) (hq:2 * u ns (l - 1) <= Y / 2 ^ (11 - l)):∀ k,k < l -> u ns (l - (k + 1)) <= Y / 2 ^ (11 - (l - (k + 1)))
  | 0,hk => by
    have d:=half_div Y (l:=l - 1) (by exact oA110 hl)
    rw [show l - 1 + 1 = l by exact oA58 hk] at d
    show u ns (l - 1) <= _
    rw [Nat.zero_add,d]
    exact oA281 hq
  | k + 1,hk => by
    have h1:=before hl hq k (by exact oA178 hk)
    have d:=half_div Y (l:=l - (k + 1 + 1)) (by exact oA224 hl)
    have e:l - (k + 1 + 1) + 1 = l - (k + 1):=by lia
    rw [e] at d
    have s:u ns (l - (k + 1)) = 2 * u ns (l - (k + 1 + 1)) + cnt ns (l - (k + 1)):=by rw [<- e];rfl
    rw [d]
    exact oA363 h1 s
theorem comp_div {X l:Nat} (hX:X < 2048) (hl:l <= 11):(2047 - X) / 2 ^ (11 - l) = 2 ^ l - 1 - X / 2 ^ (11 - l):=by
  have e:2 ^ l * 2 ^ (11 - l) = 2048:=by rw [<- Nat.pow_add,show l + (11 - l) = 11 by exact oA108 hl]
  have hp:=Nat.two_pow_pos (11 - l)
  generalize 2 ^ (11 - l) = B at *
  generalize 2 ^ l = A at *
  have h1:=Nat.div_add_mod X B
  have h2:=Nat.mod_lt X hp
  have hlt:X / B < A:=(Nat.div_lt_iff_lt_mul hp).mpr (by exact oA190 hX e)
  rw [Nat.div_eq_iff hp]
  refine xA1_0 (⟨A - (X / B + 1),by exact oA297 hlt⟩:∃ d,A = X / B + 1 + d) ?_;intro d hd
  generalize X / B = q at *
  generalize X % B = r at *
  subst hd
  have:q + 1 + d - 1 - q = d:=by lia
  rw [this]
  have e1:(q + 1 + d) * B = B * q + B + d * B:=by rw [Nat.add_mul,Nat.add_mul,Nat.one_mul,Nat.mul_comm q]
  exact oA365 h2 h1 e e1
theorem mx_ge:∀ (ns:List Int) (m:Int),m <= ns.foldl (fun m k=>if m < k then k else m) m /\ ∀ x ∈ ns,x <= ns.foldl (fun m k=>if m < k then k else m) m
  | [],m => ⟨Int.le_refl _,fun zz h => nomatch h⟩
  | x :: r,m => by
    rw [List.foldl_cons]
    have h:=mx_ge r (if m < x then x else m)
    refine ⟨?_,fun y hy=>?_⟩
    · by_cases q:m < x
      · rw [if_pos q] at h ⊢;exact Int.le_trans (Int.le_of_lt q) h.1
      · rw [if_neg q] at h ⊢;exact h.1
    · rcases List.mem_cons.mp hy with rfl | hy
      · by_cases q:m < y
        · rw [if_pos q] at h ⊢;exact h.1
        · rw [if_neg q] at h ⊢;exact Int.le_trans (Int.not_lt.mp q) h.1
      · exact h.2 y hy
theorem mx_le {M:Int}:∀ {ns:List Int} {m:Int},m <= M -> (∀ x ∈ ns,x <= M) -> ns.foldl (fun m k=>if m < k then k else m) m <= M
  | [],m,h,_ => h
  | x :: r,m,h,h2 => by
    rw [List.foldl_cons]
    refine mx_le ?_ fun y hy=>h2 y (.tail _ hy)
    split
    · exact h2 x (.head _)
    · exact h
theorem idx_len (l:Int):∀ (ns:List Int) (k:Nat),(idx ns l k).length = ns.count l
  | [],_ => rfl
  | x :: r,k => by
    unfold idx
    rw [List.count_cons]
    by_cases q:x = l
    · rw [if_pos q,List.length_cons,idx_len l r];simp [q]
    · rw [if_neg q,idx_len l r];simp [q]
theorem idx_iff (l:Int):∀ (ns:List Int) (k j v:Nat),(idx ns l k)[j]? = some v ↔ ∃ s,v = k + s /\ ns[s]? = some l /\ (ns.take s).count l = j
  | [],k,j,v => by unfold idx;simp
  | x :: r,k,j,v => by
    unfold idx
    by_cases q:x = l
    · rw [if_pos q]
      cases j with
      | zero =>
        rw [List.getElem?_cons_zero]
        constructor
        · intro h;cases h;exact (xI1_2 0 (by lia) (by simp [q]) rfl)
        · intro hT1;refine xA1_2 hT1 ?_;(try clear hT1);intro s h1 h2 h3
          cases s with
          | zero => simp [h1]
          | succ s => rw [List.take_succ_cons,List.count_cons] at h3;simp [q] at h3
      | succ j =>
        rw [List.getElem?_cons_succ,idx_iff l r (k + 1) j v]
        constructor
        · intro hT1;refine xA1_2 hT1 ?_;(try clear hT1);intro s h1 h2 h3
          refine (xI1_2 (s + 1) (by exact oA304 h1) h2 ?_)
          rw [List.take_succ_cons,List.count_cons,h3];simp [q]
        · intro hT1;refine xA1_2 hT1 ?_;(try clear hT1);intro s h1 h2 h3
          cases s with
          | zero => simp at h3
          | succ s =>
            rw [List.take_succ_cons,List.count_cons] at h3
            refine (xI1_2 s (by exact oA303 h1) h2 ?_)
            simp [q] at h3;exact h3
    · rw [if_neg q,idx_iff l r (k + 1) j v]
      constructor
      · intro hT1;refine xA1_2 hT1 ?_;(try clear hT1);intro s h1 h2 h3
        refine (xI1_2 (s + 1) (by exact oA304 h1) h2 ?_)
        rw [List.take_succ_cons,List.count_cons,h3];simp [q]
      · intro hT1;refine xA1_2 hT1 ?_;(try clear hT1);intro s h1 h2 h3
        cases s with
        | zero => simp at h2;exact absurd h2 q
        | succ s =>
          rw [List.take_succ_cons,List.count_cons] at h3
          refine (xI1_2 s (by exact oA303 h1) h2 ?_)
          simp [q] at h3;exact h3
theorem mx_0 (ns:List Int):0 <= mx ns:=(mx_ge ns 0).1
theorem le_mx {ns:List Int}:∀ x ∈ ns,x <= mx ns:=(mx_ge ns 0).2
theorem mx_11 {ns:List Int} (h:inRange ns):mx ns <= 11:=mx_le (by decide) fun x hx=>(h x hx).2
theorem whole_mx {ns:List Int} (h:inRange ns):whole ns ↔ psum (mx ns).toNat ns = 2 ^ (mx ns).toNat:=by
  have h0:=mx_0 ns
  have h1:=mx_11 h
  have e:∀ x ∈ ns,x <= ((mx ns).toNat:Int):=fun x hx=>by have:=le_mx x hx;exact oA142 this
  rw [psum_eq _ e]
  have t:=u_top e (11 - (mx ns).toNat)
  have hM:(mx ns).toNat <= 11:=by exact oA32 h1
  generalize (mx ns).toNat = M at *
  rw [show M + (11 - M) = 11 by exact oA108 hM] at t
  have p:(2048:Nat) = 2 ^ M * 2 ^ (11 - M):=by rw [<- Nat.pow_add,show M + (11 - M) = 11 by exact oA108 hM]
  constructor
  · intro w
    rw [w.2,p] at t
    exact (Nat.eq_of_mul_eq_mul_right (Nat.two_pow_pos _) t).symm
  · intro w
    exact ⟨h,by rw [t,w,<- p]⟩
theorem whole_11 {ns:List Int} (h:inRange ns):whole ns ↔ psum 11 ns = 2048:=by
  rw [psum_eq 11 fun x hx=>(h x hx).2]
  exact ⟨fun w=>w.2,fun w=>⟨h,w⟩⟩
theorem psum_le (M:Nat):∀ ns:List Int,psum M ns <= ns.length * 2 ^ M
  | [] => Nat.zero_le _
  | x :: r => by
    show (if 0 < x then 2 ^ (M - x.toNat) else 0) + psum M r <= (r.length + 1) * 2 ^ M
    have h1:=psum_le M r
    have h2:(if 0 < x then 2 ^ (M - x.toNat) else 0) <= 2 ^ M:=by
      split
      · exact Nat.pow_le_pow_right (by decide) (Nat.sub_le _ _)
      · exact Nat.zero_le _
    rw [Nat.add_mul];exact oA354 h1 h2
theorem len2 {α:Type} {l:List α} (h:l.length = 2):∃ a b,l = [a,b]:=by
  match l,h with
  | [a,b],_ => exact (xI2_0 a b rfl)
theorem compW_inv {ι:Type} {guard:MH -> Prop} {aw:ι -> List V -> QL -> MH -> Prop} {t:WT} {e:WE} {Q:List V -> MH -> Prop} (Inv:List ι -> List V -> List V -> MH -> Prop) (hg:∀ xs acc ls H,Inv xs acc ls H -> guard H) (he:∀ acc ls H,Inv [] acc ls H -> Q acc H)
    (hs:∀ x xs acc ls H (K:List V -> List V -> MH -> Prop),Inv (x :: xs) acc ls H -> (∀ acc' ls' H',Inv xs acc' ls' H' -> K acc' ls' H') -> aw x ls (fun ls1 H1=>t ls1 (fun b H2=>br b (e ls1 (fun v H3=>K (acc ++ [v]) ls1 H3) (fun zz zz=>False) H2) (K acc ls1 H2)) (fun zz zz=>False) H1) H) :
    ∀ xs acc ls H,Inv xs acc ls H -> compW guard aw t e xs acc ls Q H
  | [],acc,ls,H,h => ⟨hg _ _ _ _ h,he _ _ _ h⟩
  | x :: xs,acc,ls,H,h => ⟨hg _ _ _ _ h,hs x xs acc ls H (fun acc' ls' H' => compW guard aw t e xs acc' ls' Q H') h fun acc' ls' H' h' => compW_inv Inv hg he hs xs acc' ls' H' h'⟩
noncomputable def enumL:Nat -> List Int -> List (Nat × V)
  | _,[] => []
  | k,x :: r => (k,.int x) :: enumL (k + 1) r
theorem enum_eq:∀ (ns:List Int) (k:Nat),((ns.map V.int).zipIdx k).map (fun p=>(p.2,p.1)) = enumL k ns
  | [],_ => rfl
  | x :: r,k => by
    show (k,V.int x) :: ((r.map V.int).zipIdx (k + 1)).map (fun p=>(p.2,p.1)) = _
    rw [enum_eq r];rfl
theorem enumL_len:∀ (ns:List Int) (k:Nat),(enumL k ns).length = ns.length
  | [],_ => rfl
  | x :: r,k => by show (enumL (k + 1) r).length + 1 = r.length + 1;rw [enumL_len r]
noncomputable def usedL:List Int -> Nat -> List Int
  | [],_ => []
  | x :: r,k => if 0 < x then (k : Int) :: usedL r (k + 1) else usedL r (k + 1)
section
variable {G:Gl} {c:Cx} {n:Nat}
inductive usedC (args:List V) (Q:QV) (X:XP) (H:MH):Prop
  | mk (a) (ns : List Int) (o1 : args = [.ref a]) (o2 : H a = some (.list (ns.map .int))) (o3 : ns.length <= 100) (o4 : ∀ D,H D = none -> Q (.ref D) (upd H D (.list ((usedL ns 0).map .int))))
theorem used' (FX:Facts G):Fn G "used_symbols" 2 usedC:=FX.used_symbols.fn fun fa F=>by
  refine xA5_0 F ?_;(try clear F);intro doc pm an cdv ct F
  have GO:=FX.go
  have NB:=FX.nb
  refine fn_plain (wb:=_) (names:=["lengths"]) (k:=1) (m:=0) (n:=1) GO F (by decide +kernel) (by decide) rfl (by decide +kernel) ?_ (fun L st C=>(b_one (s_ret (r_comp C (own:=["symbol", "length"]) (fr:=[]) kind_enum (it_enum GO (r_blt GO C (v:=.type "enumerate") (NB _ (by decide)) rfl) (r_loc C 0)) (fun zz C'=>(xI0_2 (k_enum C' (a_loc C' 0) (a_loc C' 1)) (ct_one (t_cmp1 o_gt (r_loc C' 1) r_int)) (r_loc C' 0))) ⟨by decide,by decide,(fun p hp=>nomatch hp),kn_free (by rfl),by decide +kernel,rfl⟩))))
  rintro s args Q X H hb ⟨a,ns,h1,h2,h3,h4⟩
  refine xA1_1 (map1 h1) ?_;intro u hT1;subst hT1;intro e
  refine (xI1_2 [u] rfl (.of_eq (by rfl)) ?_)
  show fnW _ 0 [er u] Q X H
  rw [e]
  refine onList_of h2 ?_
  rw [enum_eq]
  refine ⟨by rw [enumL_len];exact oA105 h3,compW_inv (fun xs acc ls H'=>H' = H /\ ∃ rest k,xs = enumL k rest /\ ∃ done:List Int,acc = done.map V.int /\ done ++ usedL rest k = usedL ns 0 /\ ls.length = 2) ?_ ?_ ?_ _ _ _ _ ⟨rfl,(xI2_1 ns 0 rfl (xI1_2 [] rfl rfl rfl))⟩⟩
  · intro xs acc ls H' hT1;refine xA0_1 hT1 ?_;(try clear hT1);intro hT2;subst hT2;intro _
    exact h2
  · intro acc ls H' hT1;refine xA0_1 hT1 ?_;(try clear hT1);intro hT2;subst hT2;intro hT3;refine xA2_1 hT3 ?_;(try clear hT3);intro rest k e1 hT4;refine xA1_2 hT4 ?_;(try clear hT4);intro done e2 e3 e4
    cases rest with
    | cons x r => cases e1
    | nil =>
      simp only [usedL,List.append_nil] at e3
      rw [e2,e3]
      exact h4
  · intro x xs acc ls H' K hT1 hK;refine xA0_1 hT1 ?_;(try clear hT1);intro hT2;subst hT2;intro hT3;refine xA2_1 hT3 ?_;(try clear hT3);intro rest k e1 hT4;refine xA1_2 hT4 ?_;(try clear hT4);intro done e2 e3 e4
    cases rest with
    | nil => cases e1
    | cons y r =>
      cases e1
      refine xA2_0 (len2 e4) ?_;intro l0 l1 hT1;subst hT1
      refine ⟨fun q=>hK _ _ _ ⟨rfl,(xI2_1 r (k + 1) rfl (xI1_2 (done ++ [(k:Int)]) (by rw [e2];simp) ?_ rfl))⟩,fun q=>hK _ _ _ ⟨rfl,(xI2_1 r (k + 1) rfl (xI1_2 done e2 ?_ rfl))⟩⟩
      · rw [usedL,if_pos q] at e3;rw [<- e3];simp
      · rw [usedL,if_neg q] at e3;exact e3
inductive checkC (args:List V) (Q:QV) (X:XP) (H:MH):Prop
  | mk (a) (ns : List Int) (o1 : args = [.ref a]) (o2 : H a = some (.list (ns.map .int))) (o3 : ns.length <= 100) (o4 : ∀ x ∈ ns,small x) (o5 : whole ns -> Q (.int (mx ns)) H) (o6 : ¬ whole ns -> X NN.BT H)
theorem check' (FX:Facts G):Fn G "check_code" 5 checkC:=FX.check_code.fn fun fa F=>by
  refine xA5_0 F ?_;(try clear F);intro doc pm an cdv ct F
  have GO:=FX.go
  have NB:=FX.nb
  have h_exc:=exc_init FX
  refine xA1_0 FX.v_MOST_SYMBOLS ?_;intro tt1 h_MOST_SYMBOLS
  refine xA1_0 FX.v_LONGEST_zhuff ?_;intro tt2 h_LONGEST_zhuff
  refine fn_plain (wb:=_) (names:=["lengths", "longest", "length", "room"]) (k:=1) (m:=3) (n:=4) GO F (by decide +kernel) (by decide) rfl (by decide +kernel) ?_ (fun L st C=>(b_cons (s_if (t_cmp1 o_gt (r_call GO (r_blt GO C (v:=.builtin "len") (NB _ (by decide)) rfl) (.blt _) len_ok (l_cons (r_loc C 0) l_nil)) (r_glob GO C h_MOST_SYMBOLS)) (b_one (s_raise GO C FX.exc (FX.in_BadTable) h_exc (by decide) (r_glob GO C FX.v_BadTable) (l_cons r_str l_nil))) b_nil)
      (b_cons (s_asg C 1 r_int)
      (b_cons (s_for C rfl (it_list (r_loc C 0)) (k_list C (a_loc C 2)) (b_cons (s_if (t_bool (t_or1 (t_cmp1 o_lt (r_loc C 2) r_int) (t_or1 (t_cmp1 o_gt (r_loc C 2) (r_glob GO C h_LONGEST_zhuff)) t_or0))) (b_one (s_raise GO C FX.exc (FX.in_BadTable) h_exc (by decide) (r_glob GO C FX.v_BadTable) (l_cons (r_bin o_add (r_bin o_add r_str (r_call GO (r_blt GO C (v:=.type "str") (NB _ (by decide)) rfl) (.type _) str_ok (l_cons (r_loc C 2) l_nil))) r_str) l_nil))) b_nil)
      (b_one (s_if (t_cmp1 o_gt (r_loc C 2) (r_loc C 1)) (b_one (s_asg C 1 (r_loc C 2))) b_nil))))
      (b_cons (s_asg C 3 r_int)
      (b_cons (s_for C rfl (it_list (r_loc C 0)) (k_list C (a_loc C 2)) (b_one (s_if (t_cmp1 o_gt (r_loc C 2) r_int) (b_one (s_asg C 3 (r_bin o_add (r_loc C 3) (r_bin o_shl r_int (r_bin o_sub (r_loc C 1) (r_loc C 2)))))) b_nil)))
      (b_cons (s_if (t_bool (t_or1 (t_cmp1 o_eq (r_loc C 1) r_int) (t_or1 (t_cmp1 o_ne (r_loc C 3) (r_bin o_shl r_int (r_loc C 1))) t_or0))) (b_one (s_raise GO C FX.exc (FX.in_BadTable) h_exc (by decide) (r_glob GO C FX.v_BadTable) (l_cons r_str l_nil))) b_nil)
      (b_one (s_ret (r_loc C 1))))))))))
  rintro s args Q X H hb ⟨a,ns,h1,h2,h3,h4,h5,h6⟩
  refine xA1_1 (map1 h1) ?_;intro u hT1;subst hT1;intro e
  refine (xI1_2 [u] rfl (.of_eq (by rfl)) ?_)
  show fnW _ 3 [er u] Q X H
  rw [e]
  refine onList_of h2 (xI0_2 (by rw [List.length_map];exact oA105 h3) (fun q=>by rw [List.length_map] at q;omega) (fun zz=>onList_of h2 ?_))
  refine forW_inv (fun xs ls H'=>H' = H /\ ∃ rest:List Int,∃ m:Int,∃ y,xs = rest.map .int /\ (∀ k ∈ rest,small k) /\ small m /\ ls = [.ref a,.int m,y,.unb] /\ rest.foldl (fun m k=>if m < k then k else m) m = mx ns /\ (inRange rest ↔ inRange ns)) ?_ ?_ ?_ _ _ _ ⟨rfl,(xI3_5 ns 0 _ rfl h4 ?_ rfl rfl Iff.rfl)⟩
  · intro xs ls H' hT1;refine xA0_1 hT1 ?_;(try clear hT1);intro hT2;subst hT2;intro rest
    exact h2
  · intro ls H' hT1;refine xA0_1 hT1 ?_;(try clear hT1);intro hT2;subst hT2;intro hT3;refine xA3_5 hT3 ?_;(try clear hT3);intro rest m y e1 e2 e3 hT4;subst hT4;intro e4 e5
    obtain rfl:=List.map_eq_nil_iff.mp e1.symm
    have hin:inRange ns:=e5.mp (fun zz q=>nomatch q)
    have hm:m = mx ns:=e4
    subst hm
    have m0:=mx_0 ns
    have m11:=mx_11 hin
    refine onList_of h2 ?_
    refine forW_inv (fun xs ls H''=>H'' = H' /\ ∃ rest:List Int,∃ r:Nat,∃ y,xs = rest.map .int /\ (∀ k ∈ rest,k <= mx ns) /\ ls = [.ref a,.int (mx ns),y,.int r] /\ r + psum (mx ns).toNat rest = psum (mx ns).toNat ns) ?_ ?_ ?_ _ _ _ ⟨rfl,(xI3_3 ns 0 _ rfl le_mx rfl (by lia))⟩
    · intro xs ls H'' hT1;refine xA0_1 hT1 ?_;(try clear hT1);intro hT2;subst hT2;intro rest
      exact h2
    · intro ls H'' hT1;refine xA0_1 hT1 ?_;(try clear hT1);intro hT2;subst hT2;intro hT3;refine xA3_3 hT3 ?_;(try clear hT3);intro rest r y e1 e2 hT4;subst hT4;intro e4
      obtain rfl:=List.map_eq_nil_iff.mp e1.symm
      have e6:r = psum (mx ns).toNat ns:=e4
      have wm:=whole_mx hin
      have e7:((1:Int) * 2 ^ (mx ns).toNat) = ((2 ^ (mx ns).toNat:Nat):Int):=by simp
      refine ⟨fun q=>?_,fun q=>(xI0_2 (xI0_2 ⟨by decide,by decide⟩ m0 (by lia)) (fun q2=>?_) (fun q2=>?_))⟩
      · refine ⟨rfl,h6 fun w=>?_⟩
        have:=wm.mp w
        rw [q] at this
        have g:psum (Int.toNat 0) ns = 0:=by
          rw [psum_eq]
          · rfl
          · intro x hx;have:=le_mx x hx;exact oA140 q this
        rw [g] at this
        exact absurd this (by decide)
      · refine ⟨rfl,h6 fun w=>?_⟩
        rw [e7] at q2
        have:=wm.mp w
        exact oA306 e6 q2 this
      · refine h5 (wm.mpr ?_)
        rw [e7] at q2
        exact oA312 e6 q2
    · intro x xs ls H'' K hT1 hK;refine xA0_1 hT1 ?_;(try clear hT1);intro hT2;subst hT2;intro hT3;refine xA3_3 hT3 ?_;(try clear hT3);intro rest r y e1 e2 hT4;subst hT4;intro e4
      cases rest with
      | nil => cases e1
      | cons k rest =>
      cases e1
      have hk:=e2 k (.head _)
      simp only [psum] at e4
      refine ⟨fun q=>⟨(xI0_2 ⟨by decide,by decide⟩ (by exact oA141 hk) (by lia)),hK _ _ ⟨rfl,(xI3_3 rest (r + 2 ^ ((mx ns).toNat - k.toNat)) (.int k) rfl (fun x hx=>e2 x (.tail _ hx)) ?_ ?_)⟩⟩,fun q=>hK _ _ ⟨rfl,(xI3_3 rest r (.int k) rfl (fun x hx=>e2 x (.tail _ hx)) rfl ?_)⟩⟩
      · have:((mx ns) - k).toNat = (mx ns).toNat - k.toNat:=by lia
        rw [this];simp
      · rw [if_pos q] at e4;exact oA334 e4
      · rw [if_neg q] at e4;lia
  · intro x xs ls H' K hT1 hK;refine xA0_1 hT1 ?_;(try clear hT1);intro hT2;subst hT2;intro hT3;refine xA3_5 hT3 ?_;(try clear hT3);intro rest m y e1 e2 e3 hT4;subst hT4;intro e4 e5
    cases rest with
    | nil => cases e1
    | cons k rest =>
    cases e1
    rw [List.foldl_cons] at e4
    have hk:=e2 k (.head _)
    have bad:¬ (0 <= k /\ k <= 11) -> X NN.BT H':=fun b=>h6 fun w=>b ((e5.mpr w.1) k (.head _))
    have e6:(0 <= k /\ k <= 11) -> (inRange rest ↔ inRange ns):=fun b=>by
      rw [<- e5]
      exact ⟨fun w y hy=>by
        rcases List.mem_cons.mp hy with rfl | hy
        · exact b
        · exact w y hy,fun w y hy=>w y (.tail _ hy)⟩
    have s9:(Str.ofString "a code of ").length = 10:=by decide
    have s5:(Str.ofString " bits").length = 5:=by decide
    refine ⟨fun q=>⟨hk,fun z hz=>(xI0_3 (by exact oA213 s9 hz) (by have:=PySem.Str.length_append (Str.ofString "a code of ") z;exact oA345 s9 s5 hz this) rfl (bad (by lia)))⟩,fun q=>⟨fun q2=>⟨hk,fun z hz=>(xI0_3 (by exact oA213 s9 hz) (by have:=PySem.Str.length_append (Str.ofString "a code of ") z;exact oA345 s9 s5 hz this) rfl (bad (by lia)))⟩,fun q2=>⟨fun q3=>hK _ _ ⟨rfl,(xI3_5 rest k _ rfl (fun x hx=>e2 x (.tail _ hx)) hk rfl ?_ (e6 (by omega)))⟩,fun q3=>hK _ _ ⟨rfl,(xI3_5 rest m _ rfl (fun x hx=>e2 x (.tail _ hx)) e3 rfl ?_ (e6 (by omega)))⟩⟩⟩⟩
    · rw [if_pos q3] at e4;exact e4
    · rw [if_neg q3] at e4;exact e4
  · exact ⟨by decide,by decide⟩
end
theorem idx_app (l:Int):∀ (a b:List Int) (k:Nat),idx (a ++ b) l k = idx a l k ++ idx b l (k + a.length)
  | [],b,k => rfl
  | x :: r,b,k => by
    rw [List.cons_append,idx,idx,idx_app l r b (k + 1),List.length_cons,show k + 1 + r.length = k + (r.length + 1) by exact oA176]
    split <;> rfl
theorem idx_zeros {l:Int} (hl:l ≠ 0):∀ (z:List Int) (k:Nat),(∀ x ∈ z,x = 0) -> idx z l k = []
  | [],k,_ => rfl
  | x :: r,k,h => by
    have h1:=h x (.head _)
    rw [idx,if_neg (by rw [h1];exact fun q=>hl q.symm),idx_zeros hl r _ fun y hy=>h y (.tail _ hy)]
theorem used_cons {s:Int} {t:List Int}:∀ (r:List Int) (k:Nat),(∀ x ∈ r,0 <= x) -> usedL r k = s :: t -> ∃ z y r',r = z ++ y :: r' /\ (∀ x ∈ z,x = 0) /\ 0 < y /\ s = ((k + z.length:Nat):Int) /\ t = usedL r' (k + z.length + 1)
  | [],k,_,h => nomatch h
  | x :: r,k,h0,h => by
    rw [usedL] at h
    by_cases q:0 < x
    · rw [if_pos q] at h
      cases h
      exact (xI3_4 [] x r rfl (fun zz q=>nomatch q) q rfl rfl)
    · rw [if_neg q] at h
      refine xA3_4 (used_cons r (k + 1) (fun y hy=>h0 y (.tail _ hy)) h) ?_;intro z y r' h1 h2 h3 h4 h5
      have:=h0 x (.head _)
      refine (xI3_4 (x :: z) y r' (by rw [h1];rfl) ?_ h3 (by rw [h4,List.length_cons];congr 1;exact oA176) (by rw [h5,List.length_cons];congr 1;exact oA175))
      intro w hw
      rcases List.mem_cons.mp hw with rfl | hw
      · lia
      · exact h2 w hw
theorem used_nil:∀ (r:List Int) (k:Nat),(∀ x ∈ r,0 <= x) -> usedL r k = [] -> ∀ x ∈ r,x = 0
  | [],_,_,_ => fun zz q => nomatch q
  | x :: r,k,h0,h => by
    rw [usedL] at h
    have:=h0 x (.head _)
    by_cases q:0 < x
    · rw [if_pos q] at h;cases h
    · rw [if_neg q] at h
      intro w hw
      rcases List.mem_cons.mp hw with rfl | hw
      · lia
      · exact used_nil r (k + 1) (fun y hy=>h0 y (.tail _ hy)) h w hw
noncomputable def natV (l:List Nat):List V:=l.map fun s=>V.int (s:Nat)
noncomputable def rowL (ns:List Int) (l:Nat):List V:=if l = 0 then [] else natV (idx ns l 0)
noncomputable def ExtB (l:List Addr) (H H':MH):Prop:=∀ b m,b ∉ l -> H b = some m -> H' b = some m
noncomputable def rowsAt (H:MH) (rs:List Addr) (f:Nat -> List V):Prop:=∀ (l:Nat) (r:Addr),rs[l]? = some r -> H r = some (.list (f l))
theorem rowsAt.set {H:MH} {rs:List Addr} {f:Nat -> List V} (h:rowsAt H rs f) (hn:rs.Nodup) {i:Nat} {r:Addr} (hi:rs[i]? = some r) {g:Nat -> List V} (hg:∀ l,l ≠ i -> g l = f l):rowsAt (upd H r (.list (g i))) rs g:=fun l r' hl=>by
  by_cases q:l = i
  · subst q
    rw [hi] at hl;cases hl
    rw [upd_self]
  · have:r' ≠ r:=fun e=>by
      subst e
      refine xA1_0 (List.getElem?_eq_some_iff.mp hl) ?_;intro a1 a2
      exact q ((List.getElem?_inj a1 hn).mp (hl.trans hi.symm))
    rw [upd_ne _ _ this,hg l q];exact h l r' hl
theorem alloc_keep {H:MH} {D b:Addr} {m mo:MO} (h:H D = none) (e:H b = some mo):upd H D m b = some mo:=Ext.new h b mo e
theorem ExtB.rfl {l:List Addr} {H:MH}:ExtB l H H:=fun zz zz zz e=>e
theorem ExtB.of {l:List Addr} {H H':MH} (x:Ext H H'):ExtB l H H':=fun b m zz e=>x b m e
theorem ExtB.trans {l:List Addr} {H H1 H2:MH} (x:ExtB l H H1) (y:ExtB l H1 H2):ExtB l H H2:=fun b m hb e=>y b m hb (x b m hb e)
theorem ExtB.alloc {l:List Addr} {H H1:MH} (x:ExtB l H H1) {D:Addr} {m:MO} (h:H1 D = none):ExtB l H (upd H1 D m):=x.trans (.of (Ext.new h))
theorem ExtB.set {l:List Addr} {H H1:MH} (x:ExtB l H H1) {D:Addr} {m:MO} (h:D ∈ l):ExtB l H (upd H1 D m):=fun b mo hb e=>by
  rw [upd_ne _ _ fun q=>hb (by rw [q];exact h)];exact x b mo hb e
theorem rowsAt.alloc {H:MH} {rs:List Addr} {f:Nat -> List V} (h:rowsAt H rs f) {D:Addr} (hD:H D = none):rowsAt (upd H D (.list (f rs.length))) (rs ++ [D]) f:=fun l r hl=>by
  by_cases q:l < rs.length
  · rw [List.getElem?_append_left q] at hl
    exact alloc_keep hD (h l r hl)
  · rw [List.getElem?_append_right (by exact oA269 q)] at hl
    have:l = rs.length:=by
      rcases Nat.lt_or_ge 0 (l - rs.length) with g | g
      · rw [List.getElem?_eq_none (by simp;exact oA157 g)] at hl;cases hl
      · exact oA267 q g
    subst this
    rw [Nat.sub_self] at hl
    cases hl
    rw [upd_self]
theorem rowsAt.keep {H H':MH} {rs:List Addr} {f:Nat -> List V} (h:rowsAt H rs f) {l:List Addr} (x:ExtB l H H') (hl:∀ r ∈ rs,r ∉ l):rowsAt H' rs f:=fun i r hi=>x r _ (hl r (List.mem_of_getElem? hi)) (h i r hi)
theorem rangeL_len:∀ (k:Nat) (s x:Int),(rangeL s k x).length = k
  | 0,_,_ => rfl
  | k + 1,s,x => by show (rangeL s k (x + s)).length + 1 = k + 1;rw [rangeL_len k]
noncomputable def codesP (ns:List Int) (l q:Nat) (m:Int -> Option V) (H:MH):Prop:=∀ s d:Nat,ns[s]? = some (d:Int) ->
  ((l < d ∨ (d = l /\ (ns.take s).count (d:Int) < q)) -> ∃ t,m s = some (.ref t) /\ H t = some (.tup [.int ((st ns d + (ns.take s).count (d:Int):Nat):Int),.int d])) /\ (¬ (l < d ∨ (d = l /\ (ns.take s).count (d:Int) < q)) -> m s = none)
noncomputable abbrev htAttrs (M:Int) (Ll Lg Lc:Addr):MO:=.attrs [("longest",.int M),("lengths",.ref Ll),("groups",.ref Lg),("codes",.ref Lc)]
noncomputable def groupsP (ns:List Int) (M:Nat) (ts:List Addr) (H:MH):Prop:=∀ i g,ts[i]? = some g -> ∃ r,H g = some (.tup [.int ((M - i:Nat):Int),.ref r]) /\ H r = some (.list (rowL ns (M - i)))
noncomputable def HTat (H:MH) (x:Addr) (ns:List Int):Prop:=∃ (dx Ll Lg Lc:Addr) (ts:List Addr) (m:Int -> Option V) (k:Nat),H x = some (.inst NN.HT dx) /\ H dx = some (htAttrs (mx ns) Ll Lg Lc) /\ H Lg = some (.list (ts.map .ref)) /\ ts.length = (mx ns).toNat /\ groupsP ns (mx ns).toNat ts H /\ H Lc = some (.dict m k) /\ codesP ns 0 0 m H
noncomputable def groupsR (rs:List Addr) (M:Nat) (ts:List Addr) (H:MH):Prop:=∀ i g,ts[i]? = some g -> ∃ r,rs[M - i]? = some r /\ H g = some (.tup [.int ((M - i:Nat):Int),.ref r])
noncomputable def TupKeep (H H':MH):Prop:=∀ t vs,H t = some (.tup vs) -> H' t = some (.tup vs)
theorem TupKeep.alloc {H:MH} {D:Addr} {m:MO} (h:H D = none):TupKeep H (upd H D m):=fun t vs e=>alloc_keep h e
theorem TupKeep.set {H:MH} {b:Addr} {m0 m:MO} (h:H b = some m0) (hn:∀ vs,m0 ≠ .tup vs):TupKeep H (upd H b m):=fun t vs e=>by
  rw [upd_ne _ _ (ne_of_mo e h fun q=>hn vs q.symm)];exact e
theorem TupKeep.trans {H H1 H2:MH} (x:TupKeep H H1) (y:TupKeep H1 H2):TupKeep H H2:=fun t vs e=>y t vs (x t vs e)
theorem groupsR.keep {rs:List Addr} {M:Nat} {ts:List Addr} {H H':MH} (h:groupsR rs M ts H) (k:TupKeep H H'):groupsR rs M ts H':=fun i g hi=>by
  refine xA1_1 (h i g hi) ?_;intro r h1 h2
  exact (xI1_1 r h1 (k _ _ h2))
theorem codesP.keep {ns:List Int} {l q:Nat} {m:Int -> Option V} {H H':MH} (h:codesP ns l q m H) (k:TupKeep H H'):codesP ns l q m H':=fun s d hs=>by
  refine xA0_1 (h s d hs) ?_;intro h1 h2
  refine ⟨fun c=>?_,h2⟩
  refine xA1_1 (h1 c) ?_;intro t e1 e2
  exact (xI1_1 t e1 (k _ _ e2))
theorem codesP_set {ns:List Int} {l q s0:Nat} {m:Int -> Option V} {H:MH} {D:Addr} (h:codesP ns l q m H) (h0:(idx ns (l:Int) 0)[q]? = some s0) (hD:H D = some (.tup [.int ((st ns l + q:Nat):Int),.int l])) :
    codesP ns l (q + 1) (fun i=>if i = (s0:Int) then some (.ref D) else m i) H:=fun s d hs=>by
  refine xA1_2 ((idx_iff (l:Int) ns 0 q s0).mp h0) ?_;intro s' e1 e2 e3
  rw [Nat.zero_add] at e1
  subst e1
  refine xA0_1 (h s d hs) ?_;intro h1 h2
  by_cases e:s = s0
  · subst e
    rw [e2] at hs
    have:l = d:=by injection hs with hs;exact oA153 hs
    subst this
    refine ⟨fun zz=>(xI1_1 D (if_pos rfl) (by rw [e3];exact hD)),fun c=>(c (.inr ⟨rfl,by rw [e3];exact oA98⟩)).elim⟩
  · have hne:¬ ((s:Int) = (s0:Int)):=fun q=>e (by exact oA153 q)
    have key:(l < d ∨ (d = l /\ (ns.take s).count (d:Int) < q + 1)) ↔ (l < d ∨ (d = l /\ (ns.take s).count (d:Int) < q)):=by
      constructor
      · rintro (g | ⟨g1,g2⟩)
        · exact .inl g
        · refine .inr ⟨g1,?_⟩
          subst g1
          have:(ns.take s).count (d:Int) ≠ q:=fun z=>by
            have:=(idx_iff (d:Int) ns 0 q s).mpr (xI1_2 s (by exact oA99) hs z)
            rw [h0] at this
            exact e (by injection this with this;exact oA216 this)
          exact oA194 g2 this
      · rintro (g | ⟨g1,g2⟩)
        · exact .inl g
        · exact .inr ⟨g1,by exact oA205 g2⟩
    dsimp only
    rw [if_neg hne]
    exact ⟨fun c=>h1 (key.mp c),fun c=>h2 fun z=>c (key.mpr z)⟩
noncomputable def HTatO (H:MH) (x:Addr) (ns:List Int) (old:Addr -> Prop):Prop:=∃ (dx Ll Lg Lc:Addr) (ts:List Addr) (m:Int -> Option V) (k:Nat),H x = some (.inst NN.HT dx) /\ H dx = some (htAttrs (mx ns) Ll Lg Lc) /\ H Lg = some (.list (ts.map .ref)) /\ ts.length = (mx ns).toNat /\ (∀ i g,ts[i]? = some g -> ∃ r,¬ old r /\ H g = some (.tup [.int (((mx ns).toNat - i:Nat):Int),.ref r]) /\ H r = some (.list (rowL ns ((mx ns).toNat - i)))) /\ H Lc = some (.dict m k) /\ codesP ns 0 0 m H /\ ¬ old Lg
theorem HTatO.at {H:MH} {x:Addr} {ns:List Int} {old:Addr -> Prop} (h:HTatO H x ns old):HTat H x ns:=by
  refine xA7_0 h ?_;(try clear h);intro dx Ll Lg Lc ts m k hT1;refine xA0_7 hT1 ?_;(try clear hT1);intro h1 h2 h3 h4 h5 h6 h7 h8
  exact ⟨dx,Ll,Lg,Lc,ts,m,k,h1,h2,h3,h4,fun i g hi=>let ⟨r,_,r1,r2⟩:=h5 i g hi;⟨r,r1,r2⟩,h6,h7⟩
theorem HTatO.mono {H:MH} {x:Addr} {ns:List Int} {old old':Addr -> Prop} (h:HTatO H x ns old) (k:∀ b,old' b -> old b):HTatO H x ns old':=by
  refine xA7_0 h ?_;(try clear h);intro dx Ll Lg Lc ts m kk hT1;refine xA0_7 hT1 ?_;(try clear hT1);intro h1 h2 h3 h4 h5 h6 h7 h8
  exact ⟨dx,Ll,Lg,Lc,ts,m,kk,h1,h2,h3,h4,fun i g hi=>let ⟨r,q,r1,r2⟩:=h5 i g hi;⟨r,fun z=>q (k _ z),r1,r2⟩,h6,h7,fun z=>h8 (k _ z)⟩
theorem HTatO.keepB {H H':MH} {x D:Addr} {ns:List Int} {old:Addr -> Prop} (h:HTatO H x ns old) (e:ExtB [D] H H') (ho:old D) {xs:List V} (hD:H D = some (.list xs)):HTatO H' x ns old:=by
  refine xA7_0 h ?_;(try clear h);intro dx Ll Lg Lc ts m kk hT1;refine xA0_7 hT1 ?_;(try clear hT1);intro h1 h2 h3 h4 h5 h6 h7 h8
  have ne:∀ b mo,H b = some mo -> mo ≠ .list xs -> H' b = some mo:=fun b mo hb q=>e b mo (by
    rw [List.mem_singleton];exact ne_of_mo hb hD q) hb
  have nl:∀ b mo,H b = some mo -> ¬ old b -> H' b = some mo:=fun b mo hb q=>e b mo (by
    rw [List.mem_singleton];intro z;subst z;exact q ho) hb
  exact ⟨dx,Ll,Lg,Lc,ts,m,kk,ne _ _ h1 (by intro q;cases q),ne _ _ h2 (by intro q;cases q),nl _ _ h3 h8,h4,fun i g hi=>let ⟨r,q,r1,r2⟩:=h5 i g hi;⟨r,q,ne _ _ r1 (by intro q;cases q),nl _ _ r2 q⟩,ne _ _ h6 (by intro q;cases q),h7.keep fun t vs q=>ne _ _ q (by intro q;cases q),h8⟩
theorem count_le_len (a:Int) (ns:List Int):ns.count a <= ns.length:=List.count_le_length
theorem rowL_app {done z:List Int} {y:Int} (hz:∀ x ∈ z,x = 0) (hy:0 < y) (l:Nat):rowL (done ++ z ++ [y]) l = if (l:Int) = y then rowL done l ++ [V.int ((done.length + z.length:Nat):Int)] else rowL done l:=by
  unfold rowL
  by_cases q:l = 0
  · rw [if_pos q,if_neg (by lia),if_pos q]
  · rw [if_neg q,if_neg q,idx_app,idx_app,idx_zeros (by exact oA133 q) z _ hz,List.append_nil,Nat.zero_add,List.length_append]
    show natV (idx done l 0 ++ (if y = (l:Int) then [done.length + z.length] else [])) = _
    by_cases g:(l:Int) = y
    · rw [if_pos g,if_pos g.symm];unfold natV;rw [List.map_append];rfl
    · rw [if_neg g,if_neg (fun e=>g e.symm),List.append_nil]
theorem rowL_end {done rest:List Int} (hz:∀ x ∈ rest,x = 0) (l:Nat):rowL (done ++ rest) l = rowL done l:=by
  unfold rowL
  by_cases q:l = 0
  · rw [if_pos q,if_pos q]
  · rw [if_neg q,if_neg q,idx_app,idx_zeros (by exact oA133 q) rest _ hz,List.append_nil]
theorem codesP_next {ns:List Int} {l:Nat} {m:Int -> Option V} {H:MH} (h:codesP ns (l + 1) (cnt ns (l + 1)) m H):codesP ns l 0 m H:=fun s d hs=>by
  refine xA0_1 (h s d hs) ?_;intro h1 h2
  have key:d = l + 1 -> (ns.take s).count (d:Int) < cnt ns (l + 1):=fun e=>by
    subst e
    have g:=(idx_iff ((l + 1:Nat):Int) ns 0 ((ns.take s).count ((l + 1:Nat):Int)) s).mpr (xI1_2 s (by exact oA99) hs rfl)
    have:=(List.getElem?_eq_some_iff.mp g).1
    rw [idx_len] at this
    exact this
  constructor
  · intro q
    refine h1 ?_
    by_cases e:d = l + 1
    · exact .inr ⟨e,key e⟩
    · left;exact oA302 q e
  · intro q
    refine h2 fun z=>q ?_
    left;exact oA335 z
section
variable {G:Gl} {c:Cx} {n:Nat}
inductive htinitC (args:List V) (Q:QV) (X:XP) (H:MH):Prop
  | mk (x dx a) (ns : List Int) (o1 : args = [.ref x,.ref a]) (o2 : H x = some (.inst NN.HT dx)) (o3 : H dx = some (.attrs [])) (o4 : H a = some (.list (ns.map .int))) (o5 : ns.length <= 60) (o6 : ∀ x ∈ ns,small x) (o7 : whole ns -> ∀ H',HTatO H' x ns (fun b => b ∉ [dx] /\ H b ≠ none) -> ExtB [dx] H H' -> Q .none H') (o8 : ¬ whole ns -> X NN.BT H)
theorem htinit (FX:Facts G) {f:Addr} (F:Def G (clsFn 18 0) f "__init__" "HuffTable.__init__"):FnOk G 6 (.ref f) htinitC:=by
  refine xA5_0 F ?_;(try clear F);intro doc pm an cdv ct F
  have GO:=FX.go
  have NB:=FX.nb
  have h_check_code:=check' FX
  have h_used_symbols:=used' FX
  refine fn_plain (wb:=_) (names:=["self", "lengths", "rows", "length", "symbol", "code"]) (k:=2) (m:=4) (n:=5) GO F (by decide +kernel) (by decide) rfl (by decide +kernel) ?_ (fun L st C=>(b_cons (s_attr GO C (FX.HTa "longest" (by decide)) (r_loc C 0) (r_fn GO h_check_code C (by decide) (l_cons (r_loc C 1) l_nil)))
      (b_cons (s_attr GO C (FX.HTa "lengths" (by decide)) (r_loc C 0) (r_call GO (r_blt GO C (v:=.type "list") (NB _ (by decide)) rfl) (.type _) list_ok (l_cons (r_loc C 1) l_nil)))
      (b_cons (s_attr GO C (FX.HTa "groups" (by decide)) (r_loc C 0) (r_list l_nil))
      (b_cons (s_attr GO C (FX.HTa "codes" (by decide)) (r_loc C 0) r_dict0)
      (b_cons (s_asgComp C (i:=2) (own:=["length"]) (fr:=[]) kind_range (it_range1 GO (r_blt GO C (v:=.type "range") (NB _ (by decide)) rfl) (l_cons (r_bin o_add (r_attr GO (FX.HTa "longest" (by decide)) (r_loc C 0)) r_int) l_nil)) (fun zz C'=>(xI0_2 (k_range C' (a_loc C' 0)) ct_none (r_list l_nil))) ⟨by decide,by decide,(fun p hp=>nomatch hp),kn_free (by rfl),by decide +kernel,rfl⟩)
      (b_cons (s_for C rfl (it_list (r_fn GO h_used_symbols C (by decide) (l_cons (r_loc C 1) l_nil))) (k_list C (a_loc C 4)) (b_one (s_expr (r_meth GO (m_append C) (r_item gi_ok (r_loc C 2) (r_item gi_ok (r_loc C 1) (r_loc C 4))) (l_cons (r_loc C 4) l_nil)) rfl)))
      (b_cons (s_asg C 5 r_int)
      (b_one (s_for C rfl (it_range3 GO (r_blt GO C (v:=.type "range") (NB _ (by decide)) rfl) (l_cons (r_attr GO (FX.HTa "longest" (by decide)) (r_loc C 0)) (l_cons r_int (l_cons (r_un o_neg r_int) l_nil)))) (k_range C (a_loc C 3)) (b_cons (s_for C rfl (it_list (r_item gi_ok (r_loc C 2) (r_loc C 3))) (k_list C (a_loc C 4)) (b_cons (s_set C (r_attr GO (FX.HTa "codes" (by decide)) (r_loc C 0)) (r_loc C 4) (r_tup (l_cons (r_loc C 5) (l_cons (r_loc C 3) l_nil))))
      (b_one (s_asg C 5 (r_bin o_add (r_loc C 5) r_int)))))
      (b_cons (s_expr (r_meth GO (m_append C) (r_attr GO (FX.HTa "groups" (by decide)) (r_loc C 0)) (l_cons (r_tup (l_cons (r_loc C 3) (l_cons (r_item gi_ok (r_loc C 2) (r_loc C 3)) l_nil))) l_nil)) rfl)
      (b_one (s_asg C 5 (r_bin o_shr (r_loc C 5) r_int)))))))))))))))
  rintro s args Q X H hb ⟨x,dx,a,ns,h1,h2,h3,h4,h5,h6,h7,h8⟩
  refine xA2_2 (map2 h1) ?_;intro u1 u2 hT1;subst hT1;intro e1 e2
  refine (xI1_2 [u1,u2] rfl (.of_eq (by rfl)) ?_)
  show fnW _ 4 [er u1,er u2] Q X H
  rw [e1,e2]
  have hne:x ≠ dx:=ne_of_mo h2 h3 (by intro q;cases q)
  refine ⟨a,ns,rfl,h4,by exact oA124 h5,h6,fun w=>?_,h8⟩
  have hax:a ≠ dx:=ne_of_mo h4 h3 (by intro q;cases q)
  refine hSet_is [("longest",.int (mx ns))] h2 h3 (onList_of ((upd_ne _ _ hax).trans h4) ⟨by rw [List.length_map];lia,fun Ll hLl=>?_⟩)
  refine xA1_0 (⟨_,rfl⟩:∃ H1,H1 = upd (upd H dx (.attrs [("longest",.int (mx ns))])) Ll (.list (ns.map .int))) ?_;intro H1 hH1
  rw [<- hH1]
  have k1:ExtB [dx] H H1:=by rw [hH1];exact (ExtB.rfl.set (.head _)).alloc hLl
  have d1:H1 dx = some (.attrs [("longest",.int (mx ns))]):=by rw [hH1];exact alloc_keep hLl (upd_self _ _ _)
  have nx:x ∉ [dx]:=by simpa using hne
  have na:a ∉ [dx]:=by simpa using hax
  have l1:H1 Ll = some (.list (ns.map .int)):=by rw [hH1,upd_self]
  refine hSet_is [("longest",.int (mx ns)),("lengths",.ref Ll)] (k1 x _ nx h2) d1 ⟨by decide,fun Lg hLg=>?_⟩
  refine xA1_0 (⟨_,rfl⟩:∃ H2,H2 = upd (upd H1 dx (.attrs [("longest",.int (mx ns)),("lengths",.ref Ll)])) Lg (.list [])) ?_;intro H2 hH2
  rw [<- hH2]
  have k2:ExtB [dx] H H2:=by rw [hH2];exact (k1.set (.head _)).alloc hLg
  have d2:H2 dx = some (.attrs [("longest",.int (mx ns)),("lengths",.ref Ll)]):=by rw [hH2];exact alloc_keep hLg (upd_self _ _ _)
  have g2:H2 Lg = some (.list []):=by rw [hH2,upd_self]
  refine hSet_is [("longest",.int (mx ns)),("lengths",.ref Ll),("groups",.ref Lg)] (k2 x _ nx h2) d2 fun Lc hLc=>?_
  refine xA1_0 (⟨_,rfl⟩:∃ H3,H3 = upd (upd H2 dx (.attrs [("longest",.int (mx ns)),("lengths",.ref Ll),("groups",.ref Lg)])) Lc (.dict (fun zz=>none) 0)) ?_;intro H3 hH3
  rw [<- hH3]
  have k3:ExtB [dx] H H3:=by rw [hH3];exact (k2.set (.head _)).alloc hLc
  have d3:H3 dx = some (.attrs [("longest",.int (mx ns)),("lengths",.ref Ll),("groups",.ref Lg)]):=by rw [hH3];exact alloc_keep hLc (upd_self _ _ _)
  have c3:H3 Lc = some (.dict (fun zz=>none) 0):=by rw [hH3,upd_self]
  have g3:H3 Lg = some (.list []):=by rw [hH3];exact alloc_keep hLc (by rw [upd_ne _ _ (ne_of_mo g2 d2 (by intro q;cases q))];exact g2)
  refine hSet_is [("longest",.int (mx ns)),("lengths",.ref Ll),("groups",.ref Lg),("codes",.ref Lc)] (k3 x _ nx h2) d3 ?_
  refine xA1_0 (⟨_,rfl⟩:∃ H4,H4 = upd H3 dx (htAttrs (mx ns) Ll Lg Lc)) ?_;intro H4 hH4
  rw [<- hH4]
  have k4:ExtB [dx] H H4:=by rw [hH4];exact k3.set (.head _)
  have d4:H4 dx = some (htAttrs (mx ns) Ll Lg Lc):=by rw [hH4,upd_self]
  have c4:H4 Lc = some (.dict (fun zz=>none) 0):=by rw [hH4,upd_ne _ _ (ne_of_mo c3 d3 (by intro q;cases q))];exact c3
  have g4:H4 Lg = some (.list []):=by rw [hH4,upd_ne _ _ (ne_of_mo g3 d3 (by intro q;cases q))];exact g3
  have x4:=k4 x _ nx h2
  have a4:=k4 a _ na h4
  have old:∀ b m,b ∉ [dx] -> H b = some m -> b ∉ [Lg,Lc]:=fun b m hb e=>by
    have hb':b ≠ dx:=by simpa using hb
    simp only [List.mem_cons,List.not_mem_nil,or_false,not_or]
    refine ⟨ne_of_none (m:=m) ?_ hLg,ne_of_none (m:=m) ?_ hLc⟩
    · rw [upd_ne _ _ hb'];exact k1 b m hb e
    · rw [upd_ne _ _ hb'];exact k2 b m hb e
  clear hH1 hH2 hH3 hH4 k1 k2 k3 d1 d2 d3 c3 g2 g3 l1
  have m0:=mx_0 ns
  have m11:=mx_11 w.1
  refine hAttr_of x4 d4 rfl (iR_up (by lia) ⟨by rw [rangeL_len];lia,compW_inv (fun xs acc ls H'=>Ext H4 H' /\ ∃ rs:List Addr,acc = rs.map .ref /\ rs.length + xs.length = (mx ns).toNat + 1 /\ rs.Nodup /\ (∀ r ∈ rs,H4 r = none) /\ rowsAt H' rs (fun zz=>[]) /\ ls.length = 1) ?_ ?_ ?_ _ _ _ _ ⟨Ext.rfl,⟨ [],rfl,by rw [rangeL_len];simp;exact oA20 m0,.nil,(fun zz q=>nomatch q),(fun zz zz q=>nomatch q),rfl⟩⟩⟩)
  · intros;trivial
  · intro acc ls H' hT1 Lr hLr;refine xA0_1 hT1 ?_;(try clear hT1);intro E hT2;refine xA1_0 hT2 ?_;(try clear hT2);intro rs hT3;refine xA0_5 hT3 ?_;(try clear hT3);intro hT4;subst hT4;intro r1 r2 r3 r4 r5
    refine ⟨a,ns,rfl,alloc_keep hLr (E a _ a4),by exact oA124 h5,fun D hD=>?_⟩
    simp only [List.length_nil,Nat.add_zero] at r1
    refine xA1_0 (⟨_,rfl⟩:∃ H5,H5 = upd (upd H' Lr (.list (rs.map .ref))) D (.list ((usedL ns 0).map .int))) ?_;intro H5 hH5
    rw [<- hH5]
    have E5:Ext H' H5:=by rw [hH5];exact (Ext.new hLr).trans (Ext.new hD)
    have R5:H5 Lr = some (.list (rs.map .ref)):=by rw [hH5];exact alloc_keep hD (upd_self _ _ _)
    have D5:H5 D = some (.list ((usedL ns 0).map .int)):=by rw [hH5,upd_self]
    have r5':rowsAt H5 rs (fun zz=>[]):=fun i r hi=>E5 _ _ (r4 i r hi)
    have rD:∀ r ∈ rs,r ≠ D:=fun r hr e=>by
      subst e
      refine xA1_0 (List.getElem?_of_mem hr) ?_;intro i hi
      rw [alloc_keep hLr (r4 i r hi)] at hD;cases hD
    have rLr:∀ r ∈ rs,r ≠ Lr:=fun r hr e=>by
      subst e
      refine xA1_0 (List.getElem?_of_mem hr) ?_;intro i hi
      rw [r4 i r hi] at hLr;cases hLr
    have r4e:∀ r ∈ rs,∀ b mo,H4 b = some mo -> b ≠ r:=fun r hr b mo e q=>by
      subst q;rw [r3 b hr] at e;cases e
    have E45:Ext H4 H5:=E.trans E5
    have ns0:∀ x ∈ ns,0 <= x:=fun y hy=>(w.1 y hy).1
    have i0:(fun l=>rowL [] l) = fun zz=>([]:List V):=by funext l;unfold rowL;split <;> rfl
    have lg:Lr ∉ [Lg,Lc]:=by
      simp only [List.mem_cons,List.not_mem_nil,or_false,not_or]
      exact ⟨fun q=>ne_of_none (E _ _ g4) hLr q.symm,fun q=>ne_of_none (E _ _ c4) hLr q.symm⟩
    clear hH5 r4 E E5 hD hLr
    refine onList_of D5 ?_
    refine forW_inv (fun xs ls HH=>Ext H4 HH /\ HH Lr = some (.list (rs.map .ref)) /\ HH D = some (.list ((usedL ns 0).map .int)) /\ ∃ done rest y,ns = done ++ rest /\ xs = (usedL rest done.length).map .int /\ rowsAt HH rs (fun l=>rowL done l) /\ ls = [.ref x,.ref a,.ref Lr,.unb,y,.unb]) ?_ ?_ ?_ _ _ _ (xI0_3 E45 R5 D5 (xI3_3 [] ns _ rfl rfl (by rw [i0];exact r5') rfl))
    · intro xs ls HH hT1;refine xA0_3 hT1 ?_;(try clear hT1);intro _ _ g _
      exact g
    · intro ls HH hT1;refine xA0_3 hT1 ?_;(try clear hT1);intro f1 f2 f3 hT2;refine xA3_3 hT2 ?_;(try clear hT2);intro done rest y f4 f5 f6 hT3;subst hT3
      have hz:∀ x ∈ rest,x = 0:=used_nil rest done.length (fun q hq=>ns0 q (by rw [f4];exact List.mem_append_right _ hq)) (List.map_eq_nil_iff.mp f5.symm)
      have f7:rowsAt HH rs (rowL ns):=fun i r hi=>by rw [f6 i r hi,f4,rowL_end hz]
      refine hAttr_of (f1 x _ x4) (f1 dx _ d4) rfl ⟨rfl,iR_down (by lia) ?_⟩
      have xg:x ∉ [Lg,Lc]:=by
        simp only [List.mem_cons,List.not_mem_nil,or_false,not_or]
        exact ⟨ne_of_mo x4 g4 (by intro q;cases q),ne_of_mo x4 c4 (by intro q;cases q)⟩
      have dg:dx ∉ [Lg,Lc]:=by
        simp only [List.mem_cons,List.not_mem_nil,or_false,not_or]
        exact ⟨ne_of_mo d4 g4 (by intro q;cases q),ne_of_mo d4 c4 (by intro q;cases q)⟩
      have gc:Lg ≠ Lc:=ne_of_mo g4 c4 (by intro q;cases q)
      have rg:∀ r ∈ rs,r ∉ [Lg,Lc]:=fun r hr=>by
        simp only [List.mem_cons,List.not_mem_nil,or_false,not_or]
        exact ⟨fun q=>r4e r hr Lg _ g4 q.symm,fun q=>r4e r hr Lc _ c4 q.symm⟩
      have hMn:((mx ns) - 0).toNat = (mx ns).toNat:=by rw [Int.sub_zero]
      have hMc:((mx ns).toNat:Int) = mx ns:=by exact oA21 m0
      rw [hMn]
      clear f3 f6 R5 D5 r5' rD E45 i0 f5 hz
      refine forW_inv (fun xs ls H6=>ExtB [Lg,Lc] HH H6 /\ ∃ (l:Nat) (ts:List Addr) (m:Int -> Option V) (k:Nat) (y3 y4:V),l <= (mx ns).toNat /\ xs = rangeL (-1) l (l:Int) /\ ls = [.ref x,.ref a,.ref Lr,y3,y4,.int (st ns l:Nat)] /\ H6 Lg = some (.list (ts.map .ref)) /\ ts.length + l = (mx ns).toNat /\ groupsR rs (mx ns).toNat ts H6 /\ H6 Lc = some (.dict m k) /\ k <= 60 * ts.length /\ codesP ns l 0 m H6) ?_ ?_ ?_ _ _ _ ⟨ExtB.rfl,(xI6_8 ((mx ns).toNat) [] (fun zz=>none) 0 (.unb) y (Nat.le_refl _) (by rw [hMc]) ?_ (f1 _ _ g4) (by simp) (fun zz zz q=>nomatch q) (f1 _ _ c4) (by simp) ?_)⟩
      · intros;trivial
      · intro ls H6 hT1;refine xA0_1 hT1 ?_;(try clear hT1);intro B hT2;refine xA6_0 hT2 ?_;(try clear hT2);intro l ts m k y3 y4 hT3;refine xA0_8 hT3 ?_;(try clear hT3);intro q0 q1 hT4;subst hT4;intro q2 q3 q4 q5 q6 q7
        refine h7 w _ (xI7_7 dx Ll Lg Lc ts m k (B _ _ xg (f1 _ _ x4)) (B _ _ dg (f1 _ _ d4)) q2 ?_ ?_ q5 ?_ ?_) ?_
        · have:l = 0:=by
            cases l with
            | zero => rfl
            | succ l => cases q1
          exact oA144 q3 this
        · intro i g hi
          refine xA1_1 (q4 i g hi) ?_;intro r r1 r2
          refine (xI1_2 r (fun z=>?_) r2 (B r _ (rg r (List.mem_of_getElem? r1)) (f7 _ _ r1)))
          cases q:H r with
          | none => exact z.2 q
          | some mo => exact r4e r (List.mem_of_getElem? r1) r mo (k4 r mo z.1 q) rfl
        · have:l = 0:=by
            cases l with
            | zero => rfl
            | succ l => cases q1
          subst this;exact q7
        · intro z
          cases q:H Lg with
          | none => exact z.2 q
          | some mo => exact old Lg mo z.1 q (.head _)
        · exact fun b mo hb e=>B b mo (old b mo hb e) (f1 b mo (k4 b mo hb e))
      · intro v xs ls H6 K hT1 hK;refine xA0_1 hT1 ?_;(try clear hT1);intro B hT2;refine xA6_0 hT2 ?_;(try clear hT2);intro l ts m k y3 y4 hT3;refine xA0_8 hT3 ?_;(try clear hT3);intro q0 q1 hT4;subst hT4;intro q2 q3 q4 q5 q6 q7
        cases l with
        | zero => cases q1
        | succ l =>
        have q1':v = .int ((l + 1:Nat):Int) /\ xs = rangeL (-1) l (l:Int):=by
          have e:rangeL (-1) (l + 1) ((l + 1:Nat):Int) = .int ((l + 1:Nat):Int) :: rangeL (-1) l (((l + 1:Nat):Int) + -1):=rfl
          rw [e] at q1
          cases q1
          have:(((l + 1:Nat):Int) + -1) = (l:Int):=by lia
          rw [this];exact ⟨rfl,rfl⟩
        refine xA0_1 q1' ?_;(try clear q1');intro hT1;subst hT1;intro hT2;subst hT2
        refine xA1_0 (⟨_,List.getElem?_eq_getElem (by exact oA33 r1 q0)⟩:∃ r,rs[l + 1]? = some r) ?_;intro r hr
        have hrm:=List.mem_of_getElem? hr
        have f8:=f7 _ _ hr
        have L6:=B Lr _ lg f2
        have r6:=B r _ (rg r hrm) f8
        refine onLD_ofL L6 ⟨⟨by exact oA62,by exact oA11 m11 q0⟩,(xI1_1 (.ref r) (by rw [List.getElem?_map,Int.toNat_natCast,hr];rfl) (onList_of r6 ?_))⟩
        have w1:=whole_le w (l:=l + 1) (by lia)
        have cl:cnt ns (l + 1) <= 60:=Nat.le_trans (count_le_len _ _) h5
        refine forW_inv (fun xs ls H7=>ExtB [Lg,Lc] HH H7 /\ H7 Lg = some (.list (ts.map .ref)) /\ groupsR rs (mx ns).toNat ts H7 /\ ∃ dn rest m k y4,idx ns ((l + 1:Nat):Int) 0 = dn ++ rest /\ xs = natV rest /\ ls = [.ref x,.ref a,.ref Lr,.int ((l + 1:Nat):Int),y4,.int ((st ns (l + 1) + dn.length:Nat):Int)] /\ H7 Lc = some (.dict m k) /\ k <= 60 * ts.length + dn.length /\ codesP ns (l + 1) dn.length m H7) ?_ ?_ ?_ _ _ _ (xI0_3 B q2 q4 ⟨ [],idx ns ((l + 1:Nat):Int) 0,m,k,y4,rfl,?_,rfl,q5,q6,q7⟩)
        · intro xs ls H7 hT1;refine xA0_1 hT1 ?_;(try clear hT1);intro B7 _
          exact B7 r _ (rg r hrm) f8
        · intro ls H7 hT1;refine xA0_3 hT1 ?_;(try clear hT1);intro B7 p1 p2 hT2;refine xA5_5 hT2 ?_;(try clear hT2);intro dn rest m k y4 p3 p4 hT3;subst hT3;intro p5 p6 p7
          have hrest:rest = []:=List.map_eq_nil_iff.mp p4.symm
          subst hrest
          rw [List.append_nil] at p3
          have hdn:dn.length = cnt ns (l + 1):=by rw [<- p3,idx_len];rfl
          have x7:=B7 x _ xg (f1 _ _ x4)
          have d7:=B7 dx _ dg (f1 _ _ d4)
          have L7:=B7 Lr _ lg f2
          refine hAttr_of x7 d7 rfl ⟨(xI2_1 Lg _ rfl p1),onLD_ofL L7 ⟨⟨by exact oA62,by exact oA11 m11 q0⟩,(xI1_2 (.ref r) (by rw [List.getElem?_map,Int.toNat_natCast,hr];rfl) (Nat.le_of_ble_eq_true rfl) (fun D2 hD2=>?_))⟩⟩
          have p1':upd H7 D2 (.tup [.int ((l + 1:Nat):Int),.ref r]) Lg = some (.list (ts.map .ref)):=alloc_keep hD2 p1
          have st1:=st_step w (l:=l) (by lia)
          have e1:Int.fdiv ((st ns (l + 1) + dn.length:Nat):Int) (2 ^ Int.toNat 1) = ((st ns l:Nat):Int):=by
            rw [hdn,st1,Int.fdiv_eq_ediv_of_nonneg _ (by decide)]
            show ((2 * st ns l:Nat):Int) / 2 = _
            lia
          refine onList_of p1' (xI0_3 (by rw [List.length_map];lia) rfl (by decide) (hK _ _ ⟨?_,(xI6_8 l (ts ++ [D2]) m k (.int ((l + 1:Nat):Int)) y4 (by exact oA36 q0) rfl (by rw [<- e1];rfl) ?_ ?_ ?_ ?_ ?_ ?_)⟩))
          · exact (B7.alloc hD2).set (.head _)
          · rw [upd_self];simp
          · simp;lia
          · have tk:TupKeep H7 (upd (upd H7 D2 (.tup [.int ((l + 1:Nat):Int),.ref r])) Lg (.list (ts.map .ref ++ [.ref D2]))):=(TupKeep.alloc hD2).trans (TupKeep.set p1' fun vs q=>by cases q)
            intro i g hi
            by_cases q:i < ts.length
            · rw [List.getElem?_append_left q] at hi
              exact p2.keep tk i g hi
            · have hi2:i = ts.length:=by
                have:=(List.getElem?_eq_some_iff.mp hi).1
                rw [List.length_append,List.length_singleton] at this;exact oA268 q this
              subst hi2
              rw [List.getElem?_append_right (Nat.le_refl _),Nat.sub_self] at hi
              cases hi
              have e:(mx ns).toNat - ts.length = l + 1:=by exact oA143 q3
              refine (xI1_1 r (by rw [e];exact hr) ?_)
              rw [upd_ne _ _ (ne_of_mo (upd_self H7 D2 (.tup [.int ((l + 1:Nat):Int),.ref r])) p1' (by intro q;cases q)),upd_self,e]
          · rw [upd_ne _ _ gc.symm];exact alloc_keep hD2 p5
          · simp;exact oA349 cl p6 hdn
          · rw [hdn] at p7
            exact (codesP_next p7).keep ((TupKeep.alloc hD2).trans (TupKeep.set p1' fun vs q=>by cases q))
        · intro v xs ls H7 K7 hT1 hK7;refine xA0_3 hT1 ?_;(try clear hT1);intro B7 p1 p2 hT2;refine xA5_5 hT2 ?_;(try clear hT2);intro dn rest m k y4 p3 p4 hT3;subst hT3;intro p5 p6 p7
          cases rest with
          | nil => cases p4
          | cons s0 rest =>
          cases p4
          have x7:=B7 x _ xg (f1 _ _ x4)
          have d7:=B7 dx _ dg (f1 _ _ d4)
          have hl:dn.length < cnt ns (l + 1):=by
            have:=idx_len ((l + 1:Nat):Int) ns 0
            rw [p3,List.length_append,List.length_cons] at this
            show _ < ns.count _
            exact oA284 this
          refine ⟨Nat.le_of_ble_eq_true rfl,fun D2 hD2=>?_⟩
          have p5':upd H7 D2 (.tup [.int ((st ns (l + 1) + dn.length:Nat):Int),.int ((l + 1:Nat):Int)]) Lc = some (.dict m k):=alloc_keep hD2 p5
          have hlen:ts.length <= 11:=by lia
          refine hAttr_of (alloc_keep hD2 x7) (alloc_keep hD2 d7) rfl (onLD_ofD p5' ⟨by exact oA348 cl p6 hl hlen,hK7 _ _ (xI0_3 ?_ ?_ ?_ ⟨ dn ++ [s0],rest,_,_,.int ((s0:Nat):Int),?_,rfl,?_,upd_self _ _ _,?_,?_⟩)⟩)
          · exact (B7.alloc hD2).set (.tail _ (.head _))
          · rw [upd_ne _ _ gc];exact alloc_keep hD2 p1
          · exact p2.keep ((TupKeep.alloc hD2).trans (TupKeep.set p5' fun vs q=>by cases q))
          · rw [p3];simp
          · rw [List.length_append,List.length_singleton];rfl
          · rw [List.length_append,List.length_singleton];exact oA318 p6
          · rw [List.length_append,List.length_singleton]
            refine codesP_set (p7.keep ((TupKeep.alloc hD2).trans (TupKeep.set p5' fun vs q=>by cases q))) ?_ ?_
            · rw [p3,List.getElem?_append_right (Nat.le_refl _),Nat.sub_self];rfl
            · rw [upd_ne _ _ (ne_of_mo (upd_self H7 D2 _) p5' (by intro q;cases q)),upd_self]
        · unfold rowL;rw [if_neg (by lia)]
      · have:st ns (mx ns).toNat = 0:=by
          unfold st
          have:=(whole_mx w.1).mp w
          rw [psum_eq _ (fun x hx=>by have:=le_mx x hx;exact oA142 this)] at this
          exact oA215 this
        rw [this];rfl
      · intro s d hs
        have:=le_mx _ (List.mem_of_getElem? hs)
        refine ⟨fun c=>?_,fun zz=>rfl⟩
        rcases c with c | c
        · lia
        · exact absurd c.2 (Nat.not_lt_zero _)
    · intro v xs ls HH K hT1 hK;refine xA0_3 hT1 ?_;(try clear hT1);intro f1 f2 f3 hT2;refine xA3_3 hT2 ?_;(try clear hT2);intro done rest y0 f4 f5 f6 hT3;subst hT3
      cases hu:usedL rest done.length with
      | nil => rw [hu] at f5;cases f5
      | cons s t =>
      rw [hu] at f5
      cases f5
      refine xA3_4 (used_cons rest done.length (fun q hq=>ns0 q (by rw [f4];exact List.mem_append_right _ hq)) hu) ?_;intro z y r' z1 z2 z3 z4 z5
      have hsy:ns[done.length + z.length]? = some y:=by
        rw [f4,z1,List.getElem?_append_right (by exact oA243),List.getElem?_append_right (by lia)]
        have:done.length + z.length - done.length - z.length = 0:=by lia
        rw [this];rfl
      have hy:y ∈ ns:=List.mem_of_getElem? hsy
      have hlt:=(List.getElem?_eq_some_iff.mp hsy).1
      have hym:=le_mx y hy
      refine xA1_0 (⟨_,List.getElem?_eq_getElem (by exact oA39 r1 hym)⟩:∃ r,rs[y.toNat]? = some r) ?_;intro r hr
      have hrm:=List.mem_of_getElem? hr
      have ycast:((y.toNat:Nat):Int) = y:=by lia
      have hrow:=f6 _ _ hr
      subst z4
      refine onLD_ofL (f1 a _ a4) ⟨⟨by exact oA158,by exact oA319 h5 hlt⟩,(xI1_1 (.int y) (by rw [Int.toNat_natCast,List.getElem?_map,hsy];rfl) ?_)⟩
      refine onLD_ofL f2 ⟨⟨by exact oA19 z3,by lia⟩,(xI1_2 (.ref r) (by rw [List.getElem?_map,hr];rfl) (xI2_1 r _ rfl hrow) (onList_of hrow ?_))⟩
      refine (xI0_2 ?_ rfl (hK _ _ (xI0_3 ?_ ?_ ?_ (xI3_3 (done ++ z ++ [y]) r' _ ?_ ?_ ?_ rfl))))
      · show (rowL done y.toNat).length <= 100000
        unfold rowL;split
        · simp
        · unfold natV;rw [List.length_map,idx_len]
          have hc:=count_le_len ((y.toNat:Nat):Int) done
          have:done.length <= ns.length:=by rw [f4,List.length_append];exact oA243
          exact oA347 h5 hlt hc
      · intro b mo e
        rw [upd_ne _ _ (r4e r hrm b mo e)];exact f1 b mo e
      · rw [upd_ne _ _ (rLr r hrm).symm];exact f2
      · rw [upd_ne _ _ (rD r hrm).symm];exact f3
      · rw [f4,z1];simp
      · rw [z5];congr 2;simp;lia
      · have e:=rowL_app (done:=done) z2 z3 y.toNat
        rw [if_pos ycast] at e
        rw [<- e]
        refine f6.set r2 hr (g:=fun l=>rowL (done ++ z ++ [y]) l) fun l hl=>?_
        show rowL _ _ = rowL _ _
        rw [rowL_app z2 z3,if_neg (by exact oA37 hl)]
  · intro y xs acc ls H' K hT1 hK;refine xA0_1 hT1 ?_;(try clear hT1);intro E hT2;refine xA1_0 hT2 ?_;(try clear hT2);intro rs hT3;refine xA0_5 hT3 ?_;(try clear hT3);intro hT4;subst hT4;intro r1 r2 r3 r4 r5
    refine xA1_0 (List.length_eq_one_iff.mp r5) ?_;intro l0 hT1;subst hT1
    refine ⟨by decide,fun D hD=>hK _ _ _ ⟨E.trans (Ext.new hD),⟨ rs ++ [D],by simp,?_,?_,?_,?_,rfl⟩⟩⟩
    · rw [List.length_append];simp at r1 ⊢;lia
    · refine List.nodup_append.mpr (xI0_2 r2 (by simp) (fun p hp q hq e=>?_))
      rw [List.mem_singleton] at hq
      subst hq;subst e
      refine xA1_0 (List.getElem?_of_mem hp) ?_;intro i hi
      rw [r4 i _ hi] at hD;cases hD
    · intro r hr
      rcases List.mem_append.mp hr with hr | hr
      · exact r3 r hr
      · rw [List.mem_singleton] at hr
        subst hr
        cases q:H4 r with
        | none => rfl
        | some mo => rw [E r mo q] at hD;cases hD
    · exact r4.alloc hD
end
theorem HTat.keep {H H':MH} {x:Addr} {ns:List Int} (h:HTat H x ns) (e:Ext H H'):HTat H' x ns:=by
  refine xA7_0 h ?_;(try clear h);intro dx Ll Lg Lc ts m k hT1;refine xA0_6 hT1 ?_;(try clear hT1);intro h1 h2 h3 h4 h5 h6 h7
  refine ⟨dx,Ll,Lg,Lc,ts,m,k,e _ _ h1,e _ _ h2,e _ _ h3,h4,fun i g hi=>?_,e _ _ h6,h7.keep fun t vs q=>e _ _ q⟩
  refine xA1_1 (h5 i g hi) ?_;intro r r1 r2
  exact (xI1_1 r (e _ _ r1) (e _ _ r2))
noncomputable def codeV (ns:List Int) (s d:Nat):Nat:=if d = 0 then 0 else st ns d + (ns.take s).count (d:Int)
theorem win_div (V pos M:Nat) (hM:M <= 11):V * 2 ^ M / 2 ^ pos % 2 ^ M = V * 2 ^ 11 / 2 ^ pos % 2 ^ 11 / 2 ^ (11 - M):=by
  have e:(2:Nat) ^ 11 = 2 ^ (11 - M) * 2 ^ M:=by rw [<- Nat.pow_add,show 11 - M + M = 11 by exact oA107 hM]
  rw [e,Nat.mod_mul_right_div_self,Nat.div_div_eq_div_mul,Nat.mul_comm (2 ^ pos),<- Nat.div_div_eq_div_mul]
  congr 2
  rw [Nat.mul_comm (2 ^ (11 - M)),<- Nat.mul_assoc,Nat.mul_div_cancel _ (Nat.two_pow_pos _)]
section
variable {G:Gl} {c:Cx} {n:Nat}
inductive htC (args:List V) (Q:QV) (X:XP) (H:MH):Prop
  | mk (a) (ns : List Int) (o1 : args = [.ref a]) (o2 : H a = some (.list (ns.map .int))) (o3 : ns.length <= 60) (o4 : ∀ x ∈ ns,small x) (o5 : whole ns -> ∀ x H',H x = none -> HTatO H' x ns (fun b => H b ≠ none) -> Ext H H' -> Q (.ref x) H') (o6 : ¬ whole ns -> ∀ H',Ext H H' -> X NN.BT H')
theorem ht' (FX:Facts G):Fn G "HuffTable" 7 htC:=by
  refine xA1_1 FX.HTc ?_;intro f K F
  refine (K.fn' FX.go (htinit FX F)).mono ?_
  rintro vals Q X H ⟨a,ns,rfl,h4,h5,h6,h7,h8⟩ dx x hd hx hne
  refine ⟨x,dx,a,ns,rfl,by rw [upd_self],by rw [upd_ne _ _ hne.symm,upd_self],alloc_keep (by rw [upd_ne _ _ hne];exact hx) (alloc_keep hd h4),h5,h6,fun w H' g1 g2=>⟨rfl,h7 w x H' hx (g1.mono ?_) fun b mo e=>?_⟩,fun w=>h8 w _ ((Ext.rfl.fresh hd).fresh hx)⟩
  · intro b z
    refine ⟨fun q=>z (by rw [List.mem_singleton] at q;rw [q];exact hd),fun q=>?_⟩
    cases e:H b with
    | none => exact z e
    | some mo =>
      have:=((Ext.rfl.fresh (m:=.attrs []) hd).fresh (m:=.inst NN.HT dx) hx) b mo e
      rw [q] at this;cases this
  · exact g2 b mo (by simpa using ne_of_none e hd) (((Ext.rfl.fresh hd).fresh hx) b mo e)
inductive htcodeC (args:List V) (Q:QV) (X:XP) (H:MH):Prop
  | mk (x) (s d : Nat) (ns) (o1 : args = [.ref x,.int s]) (o2 : HTat H x ns) (o3 : ns[s]? = some (d : Int)) (o4 : ∀ t H',Ext H H' -> H' t = some (.tup [.int (codeV ns s d),.int d]) -> Q (.ref t) H')
theorem htcode' (FX:Facts G):Mt G NN.HT "code" 2 htcodeC:=FX.HT_code.mt fun f F=>by
  refine xA5_0 F ?_;(try clear F);intro doc pm an cdv ct F
  have GO:=FX.go
  have NB:=FX.nb
  refine fn_plain (wb:=_) (names:=["self", "symbol"]) (k:=2) (m:=0) (n:=1) GO F (by decide +kernel) (by decide) rfl (by decide +kernel) ?_ (fun L st C=>(b_cons (s_if (t_cmp1 o_notin (r_loc C 1) (r_attr GO (FX.HTa "codes" (by decide)) (r_loc C 0))) (b_one (s_ret (r_tup (l_cons r_int (l_cons r_int l_nil))))) b_nil)
      (b_one (s_ret (r_itemA gi_ok (r_attr GO (FX.HTa "codes" (by decide)) (r_loc C 0)) (r_loc C 1))))))
  rintro s args Q X H hb ⟨x,s,d,ns,h1,⟨dx,Ll,Lg,Lc,ts,m,k,g1,g2,g3,g4,g5,g6,g7⟩,h3,h4⟩
  refine xA2_2 (map2 h1) ?_;intro u v hT1;subst hT1;intro e1 e2
  refine (xI1_2 [u,v] rfl (.of_eq (by rfl)) ?_)
  show fnW _ 0 [er u,er v] Q X H
  rw [e1,e2]
  refine hAttr_of g1 g2 rfl (onDict_of g6 ?_)
  refine xA0_1 (g7 s d h3) ?_;intro c1 c2
  by_cases hd:d = 0
  · have hm:m s = none:=c2 (by lia)
    rw [hm]
    refine ⟨Nat.le_of_ble_eq_true rfl,fun D hD=>h4 D _ (Ext.new hD) ?_⟩
    rw [upd_self,codeV,if_pos hd,hd];rfl
  · refine xA1_1 (c1 (.inl (by exact oA134 hd))) ?_;intro t t1 t2
    rw [t1]
    refine hAttr_of g1 g2 rfl (onLD_ofD g6 (xI1_1 _ t1 (h4 t H Ext.rfl ?_)))
    rw [codeV,if_neg hd];exact t2
inductive htreadC (args:List V) (Q:QV) (X:XP) (H:MH):Prop
  | mk (x ns y dy b) (pos l j s : Nat) (o1 : args = [.ref x,.ref y]) (o2 : HTat H x ns) (o3 : whole ns) (o4 : ns.length <= 60) (o5 : BRat H y dy b pos) (o6 : ∀ x ∈ b,x < 256) (o7 : b.length <= 100000) (o8 : pos <= 8 * b.length) (o9 : 1 <= l) (o10 : (idx ns l 0)[j]? = some s) (o11 : l <= 11) (o12 : leVal b * 2 ^ 11 / 2 ^ pos % 2 ^ 11 / 2 ^ (11 - l) = st ns l + j) (o13 : ∀ H',Ext (upd H dy (brAttrs b (pos - l))) H' -> Q (.int s) H')
theorem htread' (FX:Facts G):Mt G NN.HT "read" 6 htreadC:=FX.HT_read.mt fun f F=>by
  refine xA5_0 F ?_;(try clear F);intro doc pm an cdv ct F
  have GO:=FX.go
  have NB:=FX.nb
  have h_exc:=exc_init FX
  have h_BR_peek:=brpeek' FX
  have h_BR_skip:=brskip' FX
  refine fn_plain (wb:=_) (names:=["self", "back", "value", "length", "group", "width", "span"]) (k:=2) (m:=5) (n:=5) GO F (by decide +kernel) (by decide) rfl (by decide +kernel) ?_ (fun L st C=>(b_cons (s_asg C 2 (r_meth GO (own_m GO C h_BR_peek (by decide)) (r_loc C 1) (l_cons (r_attr GO (FX.HTa "longest" (by decide)) (r_loc C 0)) l_nil)))
      (b_cons (s_for C rfl (it_list (r_attr GO (FX.HTa "groups" (by decide)) (r_loc C 0))) (k_list2 C (a_loc C 3) (a_loc C 4)) (b_cons (s_asg C 5 (r_bin o_sub (r_attr GO (FX.HTa "longest" (by decide)) (r_loc C 0)) (r_loc C 3)))
      (b_cons (s_asg C 6 (r_bin o_shl (r_call GO (r_blt GO C (v:=.builtin "len") (NB _ (by decide)) rfl) (.blt _) len_ok (l_cons (r_loc C 4) l_nil)) (r_loc C 5)))
      (b_cons (s_if (t_cmp1 o_lt (r_loc C 2) (r_loc C 6)) (b_cons (s_expr (r_meth GO (own_m GO C h_BR_skip (by decide)) (r_loc C 1) (l_cons (r_loc C 3) l_nil)) rfl)
      (b_one (s_ret (r_item gi_ok (r_loc C 4) (r_bin o_shr (r_loc C 2) (r_loc C 5)))))) b_nil)
      (b_one (s_asg C 2 (r_bin o_sub (r_loc C 2) (r_loc C 6))))))))
      (b_one s_never))))
  rintro s args Q X H hb ⟨x,ns,y,dy,b,pos,l,j,s,h1,ht,hw,hl,hbr,h4,h5,h6,l1,hs,l2,hX,h7⟩
  refine xA7_0 ht ?_;(try clear ht);intro dx Ll Lg Lc ts m k hT1;refine xA0_6 hT1 ?_;(try clear hT1);intro g1 g2 g3 g4 g5 g6 g7
  refine xA2_2 (map2 h1) ?_;intro u v hT1;subst hT1;intro e1 e2
  refine (xI1_2 [u,v] rfl (.of_eq (by rfl)) ?_)
  show fnW _ 5 [er u,er v] Q X H
  rw [e1,e2]
  have m0:=mx_0 ns
  have m11:=mx_11 hw.1
  refine xA1_0 (⟨(mx ns).toNat,by exact oA23 m0⟩:∃ M:Nat,mx ns = M) ?_;intro M hM
  have hMt:(mx ns).toNat = M:=by exact oA6 hM
  rw [hMt] at g4 g5
  rw [hM] at g2
  have hM11:M <= 11:=by exact oA10 m11 hM
  refine ⟨hbr.inst,hAttr_of g1 g2 rfl ⟨y,dy,b,pos,M,rfl,hbr,h4,h5,by lia,h6,fun H1 E=>?_⟩⟩
  rw [win_div _ _ _ hM11]
  generalize leVal b * 2 ^ 11 / 2 ^ pos % 2 ^ 11 = XX at hX ⊢
  have hlM:l <= M:=by
    have:(l:Int) <= mx ns:=le_mx _ (by
      refine xA1_2 ((idx_iff _ _ _ _ _).mp hs) ?_;intro s' q1 q2 q3
      exact List.mem_of_getElem? q2)
    exact oA16 hM this
  have hj:j < cnt ns l:=by
    have:=(List.getElem?_eq_some_iff.mp hs).1
    rw [idx_len] at this;exact this
  refine hAttr_of (E _ _ g1) (E _ _ g2) rfl (onList_of (E _ _ g3) ?_)
  have VD:∀ i,i <= M -> XX / 2 ^ (11 - M) / 2 ^ i = XX / 2 ^ (11 - (M - i)):=fun i hi=>by
    rw [Nat.div_div_eq_div_mul,<- Nat.pow_add];congr 2;lia
  generalize XX / 2 ^ (11 - M) = VV at VD ⊢
  refine forW_inv (fun xs ls HH=>HH = H1 /\ ∃ (i w:Nat) (y3 y4 y5 y6:V),xs = (ts.drop i).map .ref /\ i + l <= M /\ w + st ns (M - i) * 2 ^ i = VV /\ ls = [.ref x,.ref y,.int w,y3,y4,y5,y6]) ?_ ?_ ?_ _ _ _ ⟨rfl,(xI6_3 0 VV (.unb) (.unb) (.unb) (.unb) rfl (by exact oA249 hlM) ?_ rfl)⟩
  · intro xs ls HH hT1;refine xA0_1 hT1 ?_;(try clear hT1);intro hT2;subst hT2;intro _
    exact E _ _ g3
  · intro ls HH hT1;refine xA0_1 hT1 ?_;(try clear hT1);intro hT2;subst hT2;intro hT3;refine xA6_0 hT3 ?_;(try clear hT3);intro i w y3 y4 y5 y6 hT4;refine xA0_3 hT4 ?_;(try clear hT4);intro q1 q2 q3 hT5;subst hT5
    have:=congrArg List.length q1
    simp at this
    lia
  · intro v xs ls HH K hT1 hK;refine xA0_1 hT1 ?_;(try clear hT1);intro hT2;subst hT2;intro hT3;refine xA6_0 hT3 ?_;(try clear hT3);intro i w y3 y4 y5 y6 hT4;refine xA0_3 hT4 ?_;(try clear hT4);intro q1 q2 q3 hT5;subst hT5
    have hil:i < ts.length:=by exact oA332 l1 g4 q2
    refine xA1_0 (⟨_,List.getElem?_eq_getElem hil⟩:∃ g,ts[i]? = some g) ?_;intro g hg
    rw [List.drop_eq_getElem_cons hil,List.map_cons] at q1
    have hg':ts[i] = g:=by rw [List.getElem?_eq_getElem hil] at hg;injection hg
    rw [hg'] at q1
    cases q1
    refine xA1_1 (g5 i g hg) ?_;intro r r1 r2
    have r1':=E _ _ r1
    have r2':=E _ _ r2
    refine onTup_of r1' (hAttr_of (E _ _ g1) (E _ _ g2) rfl ?_)
    have e0:((M:Int) - ((M - i:Nat):Int)) = (i:Int):=by exact oA294 q2
    have crow:(rowL ns (M - i)).length = cnt ns (M - i):=by
      unfold rowL;rw [if_neg (by exact oA309 g4 hil)];unfold natV;rw [List.length_map,idx_len];rfl
    have cle:cnt ns (M - i) <= 60:=Nat.le_trans (count_le_len _ _) hl
    have sp:((rowL ns (M - i)).length:Int) * 2 ^ ((M:Int) - ((M - i:Nat):Int)).toNat = ((cnt ns (M - i) * 2 ^ i:Nat):Int):=by rw [e0,crow];simp
    have hi0:1 <= M - i:=by lia
    refine onList_of r2' (xI0_2 (by exact oA218 crow cle) (xI0_2 ⟨by exact oA53,by exact oA217 crow cle⟩ (by exact oA159) (by exact oA17 m11 hM)) ?_)
    have d:=VD i (by exact oA295 q2)
    have pw:=Nat.two_pow_pos i
    by_cases qi:i + l = M
    · obtain rfl:l = M - i:=by exact oA293 qi
      have dd:VV / 2 ^ i = st ns (M - i) + j:=by rw [d];exact hX
      have d1:(st ns (M - i) + j) * 2 ^ i <= VV:=by rw [<- dd];exact Nat.div_mul_le_self _ _
      have d2:VV < (st ns (M - i) + j + 1) * 2 ^ i:=by rw [<- dd,Nat.mul_comm];exact Nat.lt_mul_div_succ _ pw
      have wlt:w < (j + 1) * 2 ^ i:=by rw [Nat.add_mul,Nat.add_mul] at d2;rw [Nat.add_mul];exact oA356 q3 d2
      have wge:j * 2 ^ i <= w:=by rw [Nat.add_mul] at d1;exact oA340 q3 d1
      have wl:w < cnt ns (M - i) * 2 ^ i:=Nat.lt_of_lt_of_le wlt (Nat.mul_le_mul_right _ hj)
      refine ⟨fun zz=>?_,fun z=>(z (by rw [sp];exact Int.ofNat_lt.mpr wl)).elim⟩
      have rdy:r ≠ dy:=ne_of_mo r2 hbr.2 (by intro z;cases z)
      have wd:Int.fdiv (w:Int) (2 ^ ((M:Int) - ((M - i:Nat):Int)).toNat) = (j:Int):=by
        rw [e0,Int.toNat_natCast]
        have:w / 2 ^ i = j:=by
          rw [Nat.div_eq_iff pw]
          rw [Nat.add_mul] at wlt
          exact oA299 wlt wge
        rw [Int.fdiv_eq_ediv_of_nonneg _ (Int.le_of_lt (Int.pow_pos (by decide))),<- this];simp
      refine ⟨(hbr.ext E).inst,⟨ y,dy,b,pos,M - i,rfl,hbr.ext E,by exact oA189 l2,rfl,by exact oA159,onLD_ofL ((upd_ne _ _ rdy).trans r2') ⟨⟨by rw [wd];exact oA63,by rw [wd];exact oA241 cle hj⟩,(xI1_1 (.int (s:Nat)) ?_ (h7 _ (E.upd _ _)))⟩⟩⟩
      rw [wd,Int.toNat_natCast]
      unfold rowL;rw [if_neg (by exact oA309 g4 hil)];unfold natV;rw [List.getElem?_map,hs];rfl
    · have hstep:=st_step hw (l:=M - i - 1) (by exact oA18 m11 hM)
      have hmi:M - i - 1 + 1 = M - i:=by exact oA308 g4 hil
      rw [hmi] at hstep
      have ab:=above hw (X:=XX) (l:=l) (by rw [hX];exact oA243) (M - i - 1 - l) (by exact oA34 l2 m11 hM)
      rw [show l + (M - i - 1 - l) = M - i - 1 by lia] at ab
      have hd:=half_div XX (l:=M - i - 1) (by exact oA18 m11 hM)
      rw [hmi] at hd
      have g:(st ns (M - i) + cnt ns (M - i)) * 2 ^ i <= VV:=by
        refine Nat.le_trans (Nat.mul_le_mul_right _ ?_) (Nat.div_mul_le_self VV (2 ^ i))
        rw [d,hstep];exact oA351 ab hd
      have wge:cnt ns (M - i) * 2 ^ i <= w:=by rw [Nat.add_mul] at g;exact oA340 q3 g
      refine ⟨fun z=>absurd (by rw [sp];exact Int.ofNat_le.mpr wge) (Int.not_le.mpr z),fun zz=>hK _ _ ⟨rfl,(xI6_3 (i + 1) (w - cnt ns (M - i) * 2 ^ i) (.int ((M - i:Nat):Int)) (.ref r) (.int ((M:Int) - ((M - i:Nat):Int))) (.int (((rowL ns (M - i)).length:Int) * 2 ^ ((M:Int) - ((M - i:Nat):Int)).toNat)) rfl (by exact oA296 q2 qi) ?_ ?_)⟩⟩
      · rw [show M - (i + 1) = M - i - 1 by lia,Nat.pow_succ,Nat.mul_comm (2 ^ i) 2,<- Nat.mul_assoc,Nat.mul_comm (st ns (M - i - 1)) 2,<- hstep,Nat.add_mul]
        exact oA341 q3 wge
      · rw [Int.ofNat_sub wge,<- sp];rfl
  · have:st ns M = 0:=by
      unfold st
      have:=(whole_mx hw.1).mp hw
      rw [psum_eq _ (fun x hx=>by have:=le_mx x hx;exact oA142 this),hMt] at this
      exact oA215 this
    rw [Nat.sub_zero,this];exact oA83
end
noncomputable def tab (n:Nat) (f:Nat -> Int):List V:=(List.range n).map fun i=>.int (f i)
theorem tab_len (n:Nat) (f:Nat -> Int):(tab n f).length = n:=by unfold tab;simp
theorem tab_get {n i:Nat} (f:Nat -> Int) (h:i < n):(tab n f)[i]? = some (.int (f i)):=by
  unfold tab;rw [List.getElem?_map,List.getElem?_range h];rfl
theorem tab_set {n i:Nat} {f g:Nat -> Int} {v:Int} (h:∀ k,g k = if k = i then v else f k):(tab n f).set i (.int v) = tab n g:=by
  refine List.ext_getElem? fun k=>?_
  rw [List.getElem?_set]
  by_cases hk:k < n
  · rw [tab_get g hk,tab_len,h]
    by_cases q:i = k
    · subst q;rw [if_pos rfl,if_pos hk,if_pos rfl]
    · rw [if_neg q,tab_get f hk,if_neg fun z=>q z.symm]
  · have e1:(tab n f)[k]? = none:=List.getElem?_eq_none (by rw [tab_len];exact oA269 hk)
    have e2:(tab n g)[k]? = none:=List.getElem?_eq_none (by rw [tab_len];exact oA269 hk)
    rw [e1,e2,tab_len]
    by_cases q:i = k
    · rw [if_pos q,if_neg (by exact oA329 hk q)]
    · rw [if_neg q]
theorem tab_rep (n:Nat):List.replicate n (V.int 0) = tab n (fun zz=>0):=by
  refine List.ext_getElem? fun k=>?_
  by_cases hk:k < n
  · rw [tab_get _ hk,List.getElem?_replicate,if_pos hk]
  · rw [List.getElem?_eq_none (by simp;exact oA269 hk),List.getElem?_eq_none (by rw [tab_len];exact oA269 hk)]
theorem tab_congr {n:Nat} {f g:Nat -> Int} (h:∀ i,i < n -> f i = g i):tab n f = tab n g:=by
  refine List.ext_getElem? fun k=>?_
  by_cases hk:k < n
  · rw [tab_get _ hk,tab_get _ hk,h k hk]
  · rw [List.getElem?_eq_none (by rw [tab_len];exact oA269 hk),List.getElem?_eq_none (by rw [tab_len];exact oA269 hk)]
theorem tab_tail (n:Nat) (f:Nat -> Int):(tab (n + 1) f).drop 1 = tab n (fun i=>f (i + 1)):=by
  refine List.ext_getElem? fun k=>?_
  rw [List.getElem?_drop,Nat.add_comm 1 k]
  by_cases hk:k < n
  · rw [tab_get _ hk,tab_get _ (by exact oA203 hk)]
  · rw [List.getElem?_eq_none (by rw [tab_len];lia),List.getElem?_eq_none (by rw [tab_len];exact oA269 hk)]
section
variable {G:Gl} {c:Cx} {n:Nat}
inductive countsC (args:List V) (Q:QV) (X:XP) (H:MH):Prop
  | mk (a) (ns : List Int) (m : Nat) (o1 : args = [.ref a,.int m]) (o2 : H a = some (.list (ns.map .int))) (o3 : ns.length <= 100) (o4 : ∀ x ∈ ns,small x) (o5 : m <= 100) (o6 : (∀ x ∈ ns,0 <= x /\ x <= (m : Int)) -> ∀ D H',H D = none -> H' D = some (.list (tab (m + 1) fun l => (cnt ns l : Nat))) -> Ext H H' -> Q (.ref D) H') (o7 : ¬ (∀ x ∈ ns,0 <= x /\ x <= (m : Int)) -> ∀ H',Ext H H' -> X NN.BC H')
theorem counts' (FX:Facts G):Fn G "counts_by_length" 5 countsC:=FX.counts_by_length.fn fun fa F=>by
  refine xA5_0 F ?_;(try clear F);intro doc pm an cdv ct F
  have GO:=FX.go
  have NB:=FX.nb
  have h_exc:=exc_init FX
  refine fn_plain (wb:=_) (names:=["lengths", "longest", "found", "length"]) (k:=2) (m:=2) (n:=4) GO F (by decide +kernel) (by decide) rfl (by decide +kernel) ?_ (fun L st C=>(b_cons (s_if (t_cmp1 o_lt (r_loc C 1) r_int) (b_one s_never) b_nil)
      (b_cons (s_asg C 2 (r_bin (o_mul C) (r_list (l_cons r_int l_nil)) (r_bin o_add (r_loc C 1) r_int)))
      (b_cons (s_for C rfl (it_list (r_loc C 0)) (k_list C (a_loc C 3)) (b_cons (s_if (t_not (t_chain r_int (tc_link o_le (r_loc C 3) (tc_last o_le (r_loc C 1))))) (b_one (s_raise GO C FX.exc (FX.in_BadCode) h_exc (by decide) (r_glob GO C FX.v_BadCode) (l_cons (r_fstr (r_loc C 3) (by decide)) l_nil))) b_nil)
      (b_one (s_augset C o_iadd gi_ok (r_loc C 2) (r_loc C 3) r_int))))
      (b_one (s_ret (r_loc C 2)))))))
  rintro s args Q X H hb ⟨a,ns,m,h1,h2,h3,h4,h5,h6,h7⟩
  refine xA2_2 (map2 h1) ?_;intro u v hT1;subst hT1;intro e1 e2
  refine (xI1_2 [u,v] rfl (.of_eq (by rfl)) ?_)
  show fnW _ 2 [er u,er v] Q X H
  rw [e1,e2]
  refine ⟨fun q=>by omega,fun zz=>⟨by decide,fun D0 hD0=>onList_of (upd_self _ _ _) ⟨⟨by exact oA64,by lia⟩,fun D hD=>?_⟩⟩⟩
  have hDn:H D = none:=by
    cases q:H D with
    | none => rfl
    | some mo => rw [alloc_keep hD0 q] at hD;cases hD
  have hm1:((m:Int) + 1).toNat = m + 1:=by exact oA42
  rw [hm1,tab_rep]
  refine onList_of (alloc_keep hD (alloc_keep hD0 h2)) ?_
  have E0:Ext H (upd (upd H D0 (.list [.int 0])) D (.list (tab (m + 1) fun zz=>0))):=(Ext.new hD0).trans (Ext.new hD)
  have hda:a ≠ D:=ne_of_none h2 hDn
  refine forW_inv (fun xs ls HH=>Ext H HH /\ ∃ done rest y,ns = done ++ rest /\ xs = rest.map .int /\ (∀ x ∈ done,0 <= x /\ x <= (m:Int)) /\ ls = [.ref a,.int m,.ref D,y] /\ HH D = some (.list (tab (m + 1) fun l=>(cnt done l:Nat)))) ?_ ?_ ?_ _ _ _ ⟨E0,(xI3_4 [] ns (.unb) rfl rfl (fun zz q=>nomatch q) rfl (by rw [upd_self];rfl))⟩
  · intro xs ls HH hT1;refine xA0_1 hT1 ?_;(try clear hT1);intro E _
    exact E _ _ h2
  · intro ls HH hT1;refine xA0_1 hT1 ?_;(try clear hT1);intro E hT2;refine xA3_4 hT2 ?_;(try clear hT2);intro done rest y f1 f2 f3 hT3;subst hT3;intro f4
    obtain rfl:=List.map_eq_nil_iff.mp f2.symm
    rw [List.append_nil] at f1
    subst f1
    exact h6 f3 D HH hDn f4 E
  · intro x xs ls HH K hT1 hK;refine xA0_1 hT1 ?_;(try clear hT1);intro E hT2;refine xA3_4 hT2 ?_;(try clear hT2);intro done rest y f1 f2 f3 hT3;subst hT3;intro f4
    cases rest with
    | nil => cases f2
    | cons k rest =>
    cases f2
    have hk:k ∈ ns:=by rw [f1];exact List.mem_append_right _ (.head _)
    have bad:¬ (0 <= k /\ k <= (m:Int)) -> X NN.BC HH:=fun b=>h7 (fun z=>b (z k hk)) _ E
    refine ⟨fun q0=>⟨fun q2=>?_,fun q1=>⟨h4 k hk,fun z=>⟨rfl,bad (by lia)⟩⟩⟩,fun q0=>⟨h4 k hk,fun z=>⟨rfl,bad (by lia)⟩⟩⟩
    have hkm:k.toNat < m + 1:=by lia
    refine onLD_ofL f4 ⟨⟨q0,by lia⟩,(xI1_1 _ (tab_get _ hkm) (onLD_ofL f4 ⟨(xI0_2 q0 (by rw [tab_len];lia) (by rw [tab_len];exact oA104 h5)),hK _ _ ⟨?_,(xI3_4 (done ++ [k]) rest (.int k) (by rw [f1];simp) rfl ?_ rfl ?_)⟩⟩))⟩
    · intro b mo e
      rw [upd_ne _ _ (ne_of_none e hDn)];exact E b mo e
    · intro x hx
      rcases List.mem_append.mp hx with hx | hx
      · exact f3 x hx
      · rw [List.mem_singleton] at hx;subst hx;exact ⟨q0,q2⟩
    · rw [upd_self]
      congr 2
      refine tab_set fun l=>?_
      have hc:cnt (done ++ [k]) l = cnt done l + if k = (l:Int) then 1 else 0:=by
        unfold cnt;rw [List.count_append]
        congr 1
        have:=cnt_cons k [] l
        unfold cnt at this
        rw [this,List.count_nil,Nat.zero_add]
      rw [hc]
      by_cases z:l = k.toNat
      · rw [if_pos z,if_pos (by lia),z];simp
      · rw [if_neg z,if_neg (by exact oA38 z)];simp
inductive roomC (args:List V) (Q:QV) (X:XP) (H:MH):Prop
  | mk (a ns m) (o1 : args = [.ref a]) (o2 : H a = some (.list (tab (m + 1) fun l => (cnt ns l : Nat)))) (o3 : m <= 100) (o4 : ∀ H',Ext H H' -> Q (.int (2 ^ m - (u ns m : Nat))) H')
theorem room' (FX:Facts G):Fn G "room_of" 2 roomC:=FX.room_of.fn fun fa F=>by
  refine xA5_0 F ?_;(try clear F);intro doc pm an cdv ct F
  have GO:=FX.go
  have NB:=FX.nb
  refine fn_plain (wb:=_) (names:=["counts", "left", "count"]) (k:=1) (m:=2) (n:=1) GO F (by decide +kernel) (by decide) rfl (by decide +kernel) ?_ (fun L st C=>(b_cons (s_asg C 1 r_int)
      (b_cons (s_for C rfl (it_list (r_from (r_loc C 0) r_int)) (k_list C (a_loc C 2)) (b_one (s_asg C 1 (r_bin o_sub (r_bin (o_mul C) (r_loc C 1) r_int) (r_loc C 2)))))
      (b_one (s_ret (r_loc C 1))))))
  rintro s args Q X H hb ⟨a,ns,m,h1,h2,h3,h4⟩
  refine xA1_1 (map1 h1) ?_;intro u hT1;subst hT1;intro e1
  refine (xI1_2 [u] rfl (.of_eq (by rfl)) ?_)
  show fnW _ 2 [er u] Q X H
  rw [e1]
  refine ⟨by decide,onList_of h2 ⟨by rw [tab_len];exact oA104 h3,fun D hD=>?_⟩⟩
  have hd:List.drop (Int.toNat 1) (tab (m + 1) fun l=>((cnt ns l:Nat):Int)) = tab m fun i=>((cnt ns (i + 1):Nat):Int):=tab_tail m _
  rw [hd]
  generalize hH:upd H D (.list (tab m fun i=>((cnt ns (i + 1):Nat):Int))) = H1
  have E:Ext H H1:=by rw [<- hH];exact Ext.new hD
  have hG:H1 D = some (.list (tab m fun i=>((cnt ns (i + 1):Nat):Int))):=by rw [<- hH,upd_self]
  have hdr:∀ i,i < m -> (tab m fun i=>((cnt ns (i + 1):Nat):Int)).drop i = .int (cnt ns (i + 1):Nat) :: (tab m fun i=>((cnt ns (i + 1):Nat):Int)).drop (i + 1):=fun i hi=>by
    have hl:i < (tab m fun i=>((cnt ns (i + 1):Nat):Int)).length:=by rw [tab_len];exact hi
    rw [List.drop_eq_getElem_cons hl]
    congr 1
    have:=tab_get (fun i=>((cnt ns (i + 1):Nat):Int)) hi
    rw [List.getElem?_eq_getElem hl] at this
    injection this
  refine onList_of hG ?_
  refine forW_inv (fun xs ls HH=>HH = H1 /\ ∃ i y,i <= m /\ xs = (tab m fun i=>((cnt ns (i + 1):Nat):Int)).drop i /\ ls = [.ref a,.int (2 ^ i - (Mine.u ns i:Nat)),y]) ?_ ?_ ?_ _ _ _ ⟨rfl,(xI2_2 0 (.unb) (Nat.zero_le _) rfl rfl)⟩
  · intro xs ls HH hT1;refine xA0_1 hT1 ?_;(try clear hT1);intro hT2;subst hT2;intro _
    exact hG
  · intro ls HH hT1;refine xA0_1 hT1 ?_;(try clear hT1);intro hT2;subst hT2;intro hT3;refine xA2_2 hT3 ?_;(try clear hT3);intro i y f0 f1 hT4;subst hT4
    have:i = m:=by
      have:=congrArg List.length f1
      simp [tab_len] at this
      exact oA250 f0 this
    subst this
    exact h4 _ E
  · intro x xs ls HH K hT1 hK;refine xA0_1 hT1 ?_;(try clear hT1);intro hT2;subst hT2;intro hT3;refine xA2_2 hT3 ?_;(try clear hT3);intro i y f0 f1 hT4;subst hT4
    have him:i < m:=by
      rcases Nat.lt_or_ge i m with q | q
      · exact q
      · rw [List.drop_eq_nil_of_le (by rw [tab_len];exact q)] at f1;cases f1
    rw [hdr i him] at f1
    cases f1
    refine ⟨.inr ⟨by decide,by decide⟩,hK _ _ ⟨rfl,(xI2_2 (i + 1) (.int (cnt ns (i + 1):Nat)) him rfl ?_)⟩⟩
    have e:Mine.u ns (i + 1) = 2 * Mine.u ns i + cnt ns (i + 1):=rfl
    have e2:((2:Int) ^ i - (Mine.u ns i:Nat)) * 2 - (cnt ns (i + 1):Nat) = 2 ^ (i + 1) - (Mine.u ns (i + 1):Nat):=by
      rw [e,Int.pow_succ];exact oA13
    rw [<- e2];rfl
theorem cnt0_zero {ns:List Int} (h:cnt ns 0 = ns.length):u ns 11 = 0:=by
  have:∀ x ∈ ns,x = 0:=fun x hx=>(List.count_eq_length.mp h x hx).symm
  have e:=u_top (ns:=ns) (M:=0) (fun x hx=>by rw [this x hx];exact Int.le_refl _) 11
  rw [Nat.zero_add] at e
  rw [e];exact Nat.zero_mul _
inductive lensC (args:List V) (Q:QV) (X:XP) (H:MH):Prop
  | mk (a) (ns : List Int) (o1 : args = [.ref a,.int 11,.bool false]) (o2 : H a = some (.list (ns.map .int))) (o3 : ns.length <= 100) (o4 : ∀ x ∈ ns,small x) (o5 : whole ns -> ∀ H',Ext H H' -> Q .none H') (o6 : ¬ whole ns -> ∀ H',Ext H H' -> X NN.BC H')
theorem lens' (FX:Facts G):Fn G "check_lengths" 6 lensC:=by
  refine xA2_2 FX.check_lengths ?_;intro fa v hmg hkp hT1;refine xA8_0 hT1 ?_;(try clear hT1);intro T kk oT doc pm an cdv ct hT2;refine xA0_2 hT2 ?_;(try clear hT2);intro hT hdd F
  refine (xI1_2 fa hmg hkp ?_)
  have GO:=FX.go
  have NB:=FX.nb
  have h_exc:=exc_init FX
  have h_counts_by_length:=counts' FX
  have h_room_of:=room' FX
  refine fn_plain (wb:=_) (names:=["lengths", "longest", "lone", "counts", "used", "left"]) (k:=3) (m:=3) (n:=5) GO F (by decide +kernel) (by decide) rfl (by decide +kernel) ?_ (fun L st C=>(b_cons (s_asg C 3 (r_fn GO h_counts_by_length C (by decide) (l_cons (r_loc C 0) (l_cons (r_loc C 1) l_nil))))
      (b_cons (s_asg C 4 (r_bin o_sub (r_call GO (r_blt GO C (v:=.builtin "len") (NB _ (by decide)) rfl) (.blt _) len_ok (l_cons (r_loc C 0) l_nil)) (r_item gi_ok (r_loc C 3) r_int)))
      (b_cons (s_if (t_cmp1 o_eq (r_loc C 4) r_int) (b_cons (s_if (t_not (t_val (r_loc C 2))) (b_one (s_raise GO C FX.exc (FX.in_BadCode) h_exc (by decide) (r_glob GO C FX.v_BadCode) (l_cons r_str l_nil))) b_nil)
      (b_one s_ret0)) b_nil)
      (b_cons (s_asg C 5 (r_fn GO h_room_of C (by decide) (l_cons (r_loc C 3) l_nil)))
      (b_cons (s_if (t_cmp1 o_lt (r_loc C 5) r_int) (b_one (s_raise GO C FX.exc (FX.in_BadCode) h_exc (by decide) (r_glob GO C FX.v_BadCode) (l_cons r_str l_nil))) b_nil)
      (b_one (s_if (t_bool (t_and1 (t_cmp1 o_gt (r_loc C 5) r_int) (t_and1 (t_not (t_bool (t_and1 (t_val (r_loc C 2)) (t_and1 (t_cmp1 o_eq (r_loc C 4) r_int) (t_and1 (t_cmp1 o_eq (r_item gi_ok (r_loc C 3) r_int) r_int) t_and0))))) t_and0))) (b_one (s_raise GO C FX.exc (FX.in_BadCode) h_exc (by decide) (r_glob GO C FX.v_BadCode) (l_cons r_str l_nil))) b_nil))))))))
  rintro s args Q X H hb ⟨a,ns,h1,h2,h3,h4,h5,h6⟩
  refine xA3_3 (map3 h1) ?_;intro u1 u2 u3 hT1;subst hT1;intro e1 e2 e3
  refine (xI1_2 [u1,u2,u3] rfl (binds_dflt hT hdd hb rfl rfl rfl) ?_)
  show fnW _ 3 [er u1,er u2,er u3] Q X H
  rw [e1,e2,e3]
  refine ⟨a,ns,11,rfl,h2,h3,h4,by decide,fun hin D H1 hD hc E=>?_,fun hin=>h6 fun w=>hin w.1⟩
  have hin':inRange ns:=hin
  have bad:u ns 11 ≠ 2048 -> ∀ H',Ext H H' -> X NN.BC H':=fun b=>h6 fun w=>b w.2
  refine onList_of (E _ _ h2) ⟨by rw [List.length_map];exact oA105 h3,onLD_ofL hc ⟨⟨by decide,by decide⟩,(xI1_1 _ (tab_get _ (by decide)) ?_)⟩⟩
  refine ⟨fun q=>⟨rfl,bad ?_ _ E⟩,fun q=>⟨D,ns,11,rfl,hc,by decide,fun H2 E2=>?_⟩⟩
  · have q:((ns.map V.int).length:Int) - ((cnt ns 0:Nat):Int) = 0:=q
    rw [List.length_map] at q
    rw [cnt0_zero (by exact oA151 q)];decide
  · have e11:((2:Int) ^ 11) = 2048:=by decide
    rw [e11]
    exact ⟨fun q=>⟨rfl,bad (by lia) _ (E.trans E2)⟩,fun q=>⟨fun q2=>⟨rfl,bad (by lia) _ (E.trans E2)⟩,fun q2=>h5 ⟨hin',by lia⟩ _ (E.trans E2)⟩⟩
end
noncomputable def fc (ns:List Int) (l:Nat):Int:=if l = 0 then 0 else (2 * u ns (l - 1):Nat)
noncomputable def canV (ns:List Int) (s l:Nat):Int:=if l = 0 then 0 else ((2 * u ns (l - 1) + (ns.take s).count (l:Int):Nat):Int)
theorem none_keep {H H':MH} {D:Addr} (e:Ext H H') (h:H' D = none):H D = none:=by
  cases q:H D with
  | none => rfl
  | some mo => rw [e D mo q] at h;cases h
theorem fc_step (ns:List Int) {l:Nat} (hl:1 <= l):(fc ns (l - 1) + (if 1 < l then (cnt ns (l - 1):Nat) else 0:Nat)) * 2 = fc ns l:=by
  unfold fc
  rw [if_neg (show ¬ l = 0 by exact oA72 hl)]
  by_cases q:1 < l
  · rw [if_neg (by exact oA67 q),if_pos q]
    have e:u ns (l - 1) = 2 * u ns (l - 1 - 1) + cnt ns (l - 1):=by
      refine xA1_0 (⟨l - 2,by exact oA66 q⟩:∃ k,l = k + 2) ?_;intro k hT1;subst hT1
      rfl
    rw [e];exact oA145
  · obtain rfl:l = 1:=by lia
    rfl
section
variable {G:Gl} {c:Cx} {n:Nat}
inductive greatestCo (args:List V) (Q:QV) (X:XP) (H:MH):Prop
  | mk (a) (ns : List Int) (o1 : args = [.ref a]) (o2 : H a = some (.list (ns.map .int))) (o3 : ∀ k ∈ ns,small k) (o4 : Q (.int (mx ns)) H)
theorem greatest' (FX:Facts G):Fn G "greatest_length" 2 greatestCo:=(FX.greatest_length.fn fun fa D=>greatest_ok FX.go D).mono fun vals Q X H h=>h.casesOn fun a ns h1 h2 h3 h4=>⟨a,ns,h1,h2,h3,h4⟩
inductive firstC (args:List V) (Q:QV) (X:XP) (H:MH):Prop
  | mk (a) (ns : List Int) (m : Nat) (o1 : args = [.ref a]) (o2 : H a = some (.list (tab (m + 1) fun l => (cnt ns l : Nat)))) (o3 : whole ns) (o4 : m <= 11) (o5 : ∀ D H',H D = none -> H' D = some (.list (tab (m + 1) (fc ns))) -> Ext H H' -> Q (.ref D) H')
theorem first' (FX:Facts G):Fn G "first_codes" 2 firstC:=FX.first_codes.fn fun fa F=>by
  refine xA5_0 F ?_;(try clear F);intro doc pm an cdv ct F
  have GO:=FX.go
  have NB:=FX.nb
  refine fn_plain (wb:=_) (names:=["counts", "found", "code", "length", "shorter"]) (k:=1) (m:=4) (n:=1) GO F (by decide +kernel) (by decide) rfl (by decide +kernel) ?_ (fun L st C=>(b_cons (s_asgSw C (.cons (i:=1) rfl rfl (.cons (i:=2) rfl rfl .nil)) (r_tup (l_cons (r_bin (o_mul C) (r_list (l_cons r_int l_nil)) (r_call GO (r_blt GO C (v:=.builtin "len") (NB _ (by decide)) rfl) (.blt _) len_ok (l_cons (r_loc C 0) l_nil))) (l_cons r_int l_nil))))
      (b_cons (s_for C rfl (it_range2 GO (r_blt GO C (v:=.type "range") (NB _ (by decide)) rfl) (l_cons r_int (l_cons (r_call GO (r_blt GO C (v:=.builtin "len") (NB _ (by decide)) rfl) (.blt _) len_ok (l_cons (r_loc C 0) l_nil)) l_nil))) (k_range C (a_loc C 3)) (b_cons (s_asg C 4 (r_ifexp (t_cmp1 o_gt (r_loc C 3) r_int) (r_item gi_ok (r_loc C 0) (r_bin o_sub (r_loc C 3) r_int)) r_int))
      (b_cons (s_asg C 2 (r_bin o_shl (r_bin o_add (r_loc C 2) (r_loc C 4)) r_int))
      (b_one (s_set C (r_loc C 1) (r_loc C 3) (r_loc C 2))))))
      (b_one (s_ret (r_loc C 1))))))
  rintro s args Q X H hb ⟨a,ns,m,h1,h2,hw,h3,h4⟩
  refine xA1_1 (map1 h1) ?_;intro u1 hT1;subst hT1;intro e1
  refine (xI1_2 [u1] rfl (.of_eq (by rfl)) ?_)
  show fnW _ 4 [er u1] Q X H
  rw [e1]
  refine ⟨by decide,fun D0 hD0=>?_⟩
  have h2':=alloc_keep (m:=.list [.int 0]) hD0 h2
  refine onList_of h2' ⟨by rw [tab_len];exact oA109 h3,onList_of (upd_self _ _ _) ⟨⟨by exact oA63,by rw [tab_len];lia⟩,fun D hD=>⟨Nat.le_of_ble_eq_true rfl,fun D2 hD2=>onTup_of (upd_self _ _ _) ⟨rfl,?_⟩⟩⟩⟩
  have hDn:H D = none:=none_keep (Ext.new hD0) hD
  have hm1:((m + 1:Nat):Int).toNat = m + 1:=by exact oA48
  rw [tab_len,hm1,tab_rep] at hD2 ⊢
  generalize hH1:upd (upd (upd H D0 (.list [.int 0])) D (.list (tab (m + 1) fun zz=>0))) D2 (.tup [.ref D,.int 0]) = H1
  have E1:Ext H H1:=by rw [<- hH1];exact ((Ext.new hD0).trans (Ext.new hD)).trans (Ext.new hD2)
  have f1:H1 D = some (.list (tab (m + 1) fun zz=>0)):=by rw [<- hH1];exact alloc_keep hD2 (upd_self _ _ _)
  refine onList_of (E1 _ _ h2) ⟨by rw [tab_len];exact oA109 h3,iR_up (by rw [tab_len];lia) ?_⟩
  have hm2:(((m + 1:Nat):Int) - 1).toNat = m:=by exact oA40
  rw [tab_len,hm2]
  refine forW_inv (fun xs ls HH=>Ext H HH /\ ∃ (l:Nat) (y3 y4:V),1 <= l /\ l <= m + 1 /\ xs = rangeL 1 (m + 1 - l) (l:Int) /\ ls = [.ref a,.ref D,.int (fc ns (l - 1)),y3,y4] /\ HH D = some (.list (tab (m + 1) fun k=>if k < l then fc ns k else 0))) ?_ ?_ ?_ _ _ _ ⟨E1,(xI3_4 1 (.unb) (.unb) (by decide) (by exact oA68) rfl rfl ?_)⟩
  · intros;trivial
  · intro ls HH hT1;refine xA0_1 hT1 ?_;(try clear hT1);intro E hT2;refine xA3_4 hT2 ?_;(try clear hT2);intro l y3 y4 q1 q2 q3 hT3;subst hT3;intro q4
    have:l = m + 1:=by
      have:=congrArg List.length q3
      rw [rangeL_len] at this
      simp at this;exact oA244 q2 this
    subst this
    refine h4 D HH hDn ?_ E
    rw [q4,tab_congr fun i hi=>if_pos hi]
  · intro x xs ls HH K hT1 hK;refine xA0_1 hT1 ?_;(try clear hT1);intro E hT2;refine xA3_4 hT2 ?_;(try clear hT2);intro l y3 y4 q1 q2 q3 hT3;subst hT3;intro q4
    have hl:l <= m:=by
      rcases Nat.lt_or_ge m l with q | q
      · rw [show m + 1 - l = 0 by exact oA202 q] at q3;cases q3
      · exact q
    rw [show m + 1 - l = (m - l) + 1 by exact oA258 hl] at q3
    cases q3
    have lc:(l:Int) + 1 = ((l + 1:Nat):Int):=by exact oA50
    have c2:=E _ _ h2
    have hfc:0 <= fc ns (l - 1) /\ fc ns (l - 1) <= 4096:=by
      unfold fc
      split
      · lia
      · have:=whole_le hw (l:=l - 1 - 1) (by exact oA230 h3 hl)
        have p:=Nat.pow_le_pow_right (n:=2) (by decide) (show l - 1 - 1 <= 11 by exact oA230 h3 hl)
        exact oA263 this p
    have hst:=fc_step ns q1
    have next:∀ sh:Int,(fc ns (l - 1) + sh) * 2 ^ Int.toNat 1 = fc ns l -> 0 <= sh -> sh <= 4096 -> ∀ y4,(small (fc ns (l - 1) + sh) /\ (0:Int) <= 1 /\ (1:Int) <= 1000) /\ ((0:Int) <= l /\ (l:Int) < ((tab (m + 1) fun k=>if k < l then fc ns k else 0).length:Int) /\ (tab (m + 1) fun k=>if k < l then fc ns k else 0).length <= 100000) /\ K [.ref a,.ref D,.int ((fc ns (l - 1) + sh) * 2 ^ Int.toNat 1),.int l,y4] (upd HH D (.list ((tab (m + 1) fun k=>if k < l then fc ns k else 0).set (Int.toNat l) (.int ((fc ns (l - 1) + sh) * 2 ^ Int.toNat 1))))):=fun sh e g1 g2 y4=>by
      refine ⟨(xI0_2 ⟨by exact oA138 hfc g1,by exact oA139 hfc g2⟩ (by decide) (by decide)),?_⟩
      refine ⟨(xI0_2 (by exact oA63) (by rw [tab_len];exact oA247 hl) (by rw [tab_len];exact oA109 h3)),?_⟩
      rw [e]
      refine hK _ _ ⟨?_,(xI3_4 (l + 1) (.int l) y4 (by exact oA68) (by exact oA252 hl) ?_ rfl ?_)⟩
      · intro b mo eb
        rw [upd_ne _ _ (ne_of_none eb hDn)];exact E b mo eb
      · rw [lc];congr 1;lia
      · rw [upd_self]
        congr 2
        refine tab_set fun k=>?_
        rw [Int.toNat_natCast]
        by_cases z:k = l
        · rw [if_pos (by lia),if_pos z,z]
        · rw [if_neg z]
          by_cases z2:k < l
          · rw [if_pos (by exact oA205 z2),if_pos z2]
          · rw [if_neg (by lia),if_neg z2]
    refine ⟨fun q=>?_,fun q=>?_⟩
    · have hl1:((l:Int) - 1).toNat = l - 1:=by lia
      refine onLD_ofL c2 ⟨⟨by lia,by lia⟩,(xI1_1 (.int (cnt ns (l - 1):Nat)) (by rw [hl1];exact tab_get _ (by exact oA253 hl)) ?_)⟩
      rw [if_pos (by lia)] at hst
      have hc:=whole_le hw (l:=l - 1) (by exact oA231 h3 hl)
      have e:u ns (l - 1) = 2 * u ns (l - 1 - 1) + cnt ns (l - 1):=by
        refine xA1_0 (⟨l - 2,by lia⟩:∃ k,l = k + 2) ?_;intro k hT1;subst hT1
        rfl
      have p:=Nat.pow_le_pow_right (n:=2) (by decide) (show l - 1 <= 11 by exact oA231 h3 hl)
      have nx:=next ((cnt ns (l - 1):Nat):Int) hst (by exact oA63) (by exact oA352 hc e p) (.int (cnt ns (l - 1):Nat))
      exact ⟨nx.1,onLD_ofL q4 nx.2⟩
    · rw [if_neg (by lia)] at hst
      have nx:=next 0 hst (by lia) (by lia) (.int 0)
      exact ⟨nx.1,onLD_ofL q4 nx.2⟩
  · rw [f1]
    refine congrArg some (congrArg MO.list (tab_congr fun i hi=>?_))
    by_cases z:i < 1
    · rw [if_pos z];obtain rfl:i = 0:=by exact oA88 z
      rfl
    · rw [if_neg z]
end
theorem cnt_snoc (done:List Int) (k:Int) (l:Nat):cnt (done ++ [k]) l = cnt done l + if k = (l:Int) then 1 else 0:=by
  unfold cnt;rw [List.count_append]
  congr 1
  have:=cnt_cons k [] l
  unfold cnt at this
  rw [this,List.count_nil,Nat.zero_add]
theorem cnt_app_le (a b:List Int) (l:Nat):cnt a l <= cnt (a ++ b) l:=by
  unfold cnt;rw [List.count_append];exact Nat.le_add_right _ _
section
variable {G:Gl} {c:Cx} {n:Nat}
inductive canonC (args:List V) (Q:QV) (X:XP) (H:MH):Prop
  | mk (a) (ns : List Int) (o1 : args = [.ref a]) (o2 : H a = some (.list (ns.map .int))) (o3 : whole ns) (o4 : ns.length <= 60) (o5 : ∀ D H' cs,H D = none -> H' D = some (.list cs) -> cs.length = ns.length -> (∀ s l : Nat,ns[s]? = some (l : Int) -> cs[s]? = some (.int (canV ns s l))) -> Ext H H' -> Q (.ref D) H')
theorem canon' (FX:Facts G):Fn G "canonical" 6 canonC:=FX.canonical.fn fun fa F=>by
  refine xA5_0 F ?_;(try clear F);intro doc pm an cdv ct F
  have GO:=FX.go
  have NB:=FX.nb
  have h_counts_by_length:=counts' FX
  have h_greatest_length:=greatest' FX
  have h_first_codes:=first' FX
  refine fn_plain (wb:=_) (names:=["lengths", "following", "codes", "length"]) (k:=1) (m:=3) (n:=5) GO F (by decide +kernel) (by decide) rfl (by decide +kernel) ?_ (fun L st C=>(b_cons (s_asg C 1 (r_fn GO h_first_codes C (by decide) (l_cons (r_fn GO h_counts_by_length C (by decide) (l_cons (r_loc C 0) (l_cons (r_fn GO h_greatest_length C (by decide) (l_cons (r_loc C 0) l_nil)) l_nil))) l_nil)))
      (b_cons (s_asg C 2 (r_list l_nil))
      (b_cons (s_for C rfl (it_list (r_loc C 0)) (k_list C (a_loc C 3)) (b_one (s_if (t_cmp1 o_eq (r_loc C 3) r_int) (b_one (s_expr (r_meth GO (m_append C) (r_loc C 2) (l_cons r_int l_nil)) rfl)) (b_cons (s_expr (r_meth GO (m_append C) (r_loc C 2) (l_cons (r_item gi_ok (r_loc C 1) (r_loc C 3)) l_nil)) rfl)
      (b_one (s_augset C o_iadd gi_ok (r_loc C 1) (r_loc C 3) r_int))))))
      (b_one (s_ret (r_loc C 2)))))))
  rintro s args Q X H hb ⟨a,ns,h1,h2,hw,h3,h4⟩
  refine xA1_1 (map1 h1) ?_;intro u1 hT1;subst hT1;intro e1
  refine (xI1_2 [u1] rfl (.of_eq (by rfl)) ?_)
  show fnW _ 3 [er u1] Q X H
  rw [e1]
  have m0:=mx_0 ns
  have m11:=mx_11 hw.1
  have hsm:∀ k ∈ ns,small k:=fun k hk=>by have:=hw.1 k hk;exact ⟨by exact oA27 this,by exact oA28 this⟩
  refine xA1_0 (⟨(mx ns).toNat,by exact oA23 m0⟩:∃ M:Nat,mx ns = M) ?_;intro M hM
  refine ⟨a,ns,rfl,h2,hsm,a,ns,M,by rw [hM],h2,by exact oA124 h3,hsm,by exact oA9 m11 hM,fun hin Dc H1 hDc hc E1=>?_,fun hin=>(hin fun x hx=>⟨(hw.1 x hx).1,by rw [<- hM];exact le_mx x hx⟩).elim⟩
  refine ⟨Dc,ns,M,rfl,hc,hw,by exact oA10 m11 hM,fun Df H2 hDf hf E2=>?_⟩
  refine ⟨by decide,fun D hD=>?_⟩
  have E12:=E1.trans E2
  have hDn:=none_keep E12 hD
  have hFn:=none_keep E1 hDf
  have hDF:Df ≠ D:=ne_of_none hf hD
  have h2':=E12 _ _ h2
  refine onList_of (alloc_keep hD h2') ?_
  refine forW_inv (fun xs ls HH=>Ext H HH /\ ∃ done rest y f cs,ns = done ++ rest /\ xs = rest.map .int /\ ls = [.ref a,.ref Df,.ref D,y] /\ HH Df = some (.list (tab (M + 1) f)) /\ (∀ l:Nat,1 <= l -> f l = fc ns l + (cnt done l:Nat)) /\ HH D = some (.list cs) /\ cs.length = done.length /\ ∀ s l:Nat,done[s]? = some (l:Int) -> cs[s]? = some (.int (canV ns s l))) ?_ ?_ ?_ _ _ _ ⟨E12.trans (Ext.new hD),(xI5_7 [] ns (.unb) (fc ns) [] rfl rfl rfl (alloc_keep hD hf) (fun l hl=>by show _ = fc ns l + ((0:Nat):Int);lia) (upd_self _ _ _) rfl (fun s l q=>by simp at q))⟩
  · intro xs ls HH hT1;refine xA0_1 hT1 ?_;(try clear hT1);intro E _
    exact E _ _ h2
  · intro ls HH hT1;refine xA0_1 hT1 ?_;(try clear hT1);intro E hT2;refine xA5_0 hT2 ?_;(try clear hT2);intro done rest y f cs hT3;refine xA0_7 hT3 ?_;(try clear hT3);intro f1 f2 hT4;subst hT4;intro f3 f4 f5 f6 f7
    obtain rfl:=List.map_eq_nil_iff.mp f2.symm
    rw [List.append_nil] at f1
    subst f1
    exact h4 D HH cs hDn f5 f6 f7 E
  · intro x xs ls HH K hT1 hK;refine xA0_1 hT1 ?_;(try clear hT1);intro E hT2;refine xA5_0 hT2 ?_;(try clear hT2);intro done rest y f cs hT3;refine xA0_7 hT3 ?_;(try clear hT3);intro f1 f2 hT4;subst hT4;intro f3 f4 f5 f6 f7
    cases rest with
    | nil => cases f2
    | cons k rest =>
    cases f2
    have hk:k ∈ ns:=by rw [f1];exact List.mem_append_right _ (.head _)
    have hk0:=(hw.1 k hk).1
    have hkM:=le_mx k hk
    have hlen:done.length < ns.length:=by rw [f1];simp
    have htk:ns.take done.length = done:=by rw [f1,List.take_left]
    have ext:∀ m,Ext H (upd HH D m):=fun m b mo e=>by rw [upd_ne _ _ (ne_of_none e hDn)];exact E b mo e
    have cs':∀ v,(∀ l:Nat,k = (l:Int) -> v = canV ns done.length l) -> ∀ s l:Nat,(done ++ [k])[s]? = some (l:Int) -> (cs ++ [V.int v])[s]? = some (.int (canV ns s l)):=fun v hv s l q=>by
      rcases Nat.lt_or_ge s done.length with z | z
      · rw [List.getElem?_append_left z] at q
        rw [List.getElem?_append_left (by exact oA310 f6 z)];exact f7 s l q
      · rw [List.getElem?_append_right z] at q
        have:s = done.length:=by
          have:=(List.getElem?_eq_some_iff.mp q).1
          simp at this;exact oA265 z this
        subst this
        rw [Nat.sub_self] at q
        injection q with q
        rw [List.getElem?_append_right (by exact oA214 f6),f6,Nat.sub_self,hv l q];rfl
    refine ⟨fun q=>⟨(xI2_1 D _ rfl f5),onList_of f5 (xI0_2 (by exact oA320 h3 f6 hlen) rfl (hK _ _ ⟨ext _,(xI5_7 (done ++ [k]) rest (.int k) f (cs ++ [.int 0]) (by rw [f1];simp) rfl rfl ?_ ?_ (upd_self _ _ _) (by simp [f6]) ?_)⟩))⟩,fun q=>⟨(xI2_1 D _ rfl f5),?_⟩⟩
    · rw [upd_ne _ _ hDF];exact f3
    · intro l hl
      rw [cnt_snoc,if_neg (by lia)];exact f4 l hl
    · refine cs' 0 fun l hl=>?_
      unfold canV;rw [if_pos (by lia)]
    · refine xA1_0 (⟨k.toNat,by exact oA23 hk0⟩:∃ d:Nat,k = d) ?_;intro d hT1;subst hT1
      have hdM:d < M + 1:=by exact oA15 hM hkM
      refine onLD_ofL f3 ⟨⟨by exact oA63,by exact oA7 m11 hkM⟩,(xI1_1 _ (tab_get f hdM) (onList_of f5 (xI0_2 (by exact oA320 h3 f6 hlen) rfl ?_)))⟩
      have f3':=(upd_ne HH (.list (cs ++ [.int (f d)])) hDF).trans f3
      refine onLD_ofL f3' ⟨⟨by exact oA63,by exact oA7 m11 hkM⟩,(xI1_1 _ (tab_get f hdM) (onLD_ofL f3' ⟨(xI0_2 (by exact oA63) (by rw [tab_len];exact oA14 hM hkM) (by rw [tab_len];exact oA8 m11 hM)),hK _ _ ⟨?_,(xI5_7 (done ++ [(d:Int)]) rest (.int d) (fun l=>if l = d then f d + 1 else f l) (cs ++ [.int (f d)]) (by rw [f1];simp) rfl rfl ?_ ?_ ?_ (by simp [f6]) ?_)⟩⟩))⟩
      · intro b mo e
        rw [upd_ne _ _ (ne_of_none e hFn)];exact ext _ b mo e
      · rw [upd_self]
        congr 2
        exact tab_set fun l=>rfl
      · intro l hl
        show (if l = d then f d + 1 else f l) = _
        rw [cnt_snoc]
        by_cases z:l = d
        · subst z;rw [if_pos rfl,if_pos rfl,f4 l hl];lia
        · rw [if_neg z,if_neg (by exact oA270 z),f4 l hl];exact oA2
      · rw [upd_ne _ _ hDF.symm,upd_self];rfl
      · refine cs' _ fun l hl=>?_
        obtain rfl:d = l:=by exact oA153 hl
        unfold canV
        rw [f4 d (by exact oA130 q),if_neg (by exact oA131 q),htk]
        unfold fc cnt
        rw [if_neg (by exact oA131 q)];exact oA148
end
theorem pl_cons (x:Int) (r:List Int):∀ l:Nat,pl (x :: r) l = pl r l + (if 0 < x /\ x <= (l:Int) then 1 else 0)
  | 0 => by rw [if_neg (by lia)];rfl
  | l + 1 => by
    show pl (x :: r) l + cnt (x :: r) (l + 1) = pl r l + cnt r (l + 1) + _
    rw [pl_cons x r l,cnt_cons]
    by_cases h3:x = ((l + 1:Nat):Int)
    · rw [if_pos h3,if_neg (by omega),if_pos (by exact oA4 h3)];lia
    · rw [if_neg h3]
      by_cases h1:0 < x /\ x <= (l:Int)
      · rw [if_pos h1,if_pos (by exact oA0 h1)];lia
      · rw [if_neg h1,if_neg (by lia)];lia
theorem pl_le:∀ (ns:List Int) (l:Nat),pl ns l <= ns.length
  | [],l => by
    have:∀ l,pl [] l = 0:=fun l=>by
      induction l with
      | zero => rfl
      | succ l ih => show pl [] l + cnt [] (l + 1) = 0;rw [ih];rfl
    rw [this];exact Nat.le_refl _
  | x :: r,l => by
    rw [pl_cons,List.length_cons]
    have:=pl_le r l
    split <;> lia
theorem pl_mono (ns:List Int) {l m:Nat} (h:l <= m):pl ns l <= pl ns m:=by
  induction m with
  | zero => obtain rfl : l = 0 := by lia
            exact Nat.le_refl _
  | succ m ih =>
    rcases Nat.lt_or_ge m l with q | q
    · obtain rfl:l = m + 1:=by exact oA246 h q
      exact Nat.le_refl _
    · exact Nat.le_trans (ih q) (Nat.le_add_right _ _)
theorem pl_pred (ns:List Int) {l:Nat} (h:1 <= l):pl ns l = pl ns (l - 1) + cnt ns l:=by
  refine xA1_0 (⟨l - 1,by exact oA71 h⟩:∃ k,l = k + 1) ?_;intro k hT1;subst hT1
  rfl
theorem pl_apart {ns:List Int} {l m i j:Nat} (hl:1 <= l) (hm:1 <= m) (hi:i < cnt ns l) (hj:j < cnt ns m) (h:pl ns (l - 1) + i = pl ns (m - 1) + j):l = m /\ i = j:=by
  have p1:=pl_pred ns hl
  have p2:=pl_pred ns hm
  rcases Nat.lt_trichotomy l m with q | q | q
  · have:=pl_mono ns (show l <= m - 1 by exact oA206 q);exact oA370 hi h p1 this
  · subst q;exact ⟨rfl,by exact oA292 h⟩
  · have:=pl_mono ns (show m <= l - 1 by exact oA206 q);exact oA371 hj h p2 this
theorem idx_snoc (done:List Int) (k:Int) (l:Int):idx (done ++ [k]) l 0 = idx done l 0 ++ (if k = l then [done.length] else []):=by
  rw [idx_app,Nat.zero_add];rfl
noncomputable def symP (ns done:List Int) (fs:List V):Prop:=∀ l j s:Nat,1 <= l -> (idx done l 0)[j]? = some s -> fs[pl ns (l - 1) + j]? = some (.int s)
section
variable {G:Gl} {c:Cx} {n:Nat}
inductive bylenC (args:List V) (Q:QV) (X:XP) (H:MH):Prop
  | mk (a) (ns : List Int) (o1 : args = [.ref a]) (o2 : H a = some (.list (ns.map .int))) (o3 : whole ns) (o4 : ns.length <= 60) (o5 : ∀ D H' fs,H D = none -> H' D = some (.list fs) -> fs.length <= 60 -> symP ns ns fs -> Ext H H' -> Q (.ref D) H')
theorem bylen' (FX:Facts G):Fn G "by_length" 6 bylenC:=FX.by_length.fn fun fa F=>by
  refine xA5_0 F ?_;(try clear F);intro doc pm an cdv ct F
  have GO:=FX.go
  have NB:=FX.nb
  have h_counts_by_length:=counts' FX
  have h_greatest_length:=greatest' FX
  refine fn_plain (wb:=_) (names:=["lengths", "counts", "places", "used", "length", "found", "symbol"]) (k:=1) (m:=6) (n:=5) GO F (by decide +kernel) (by decide) rfl (by decide +kernel) ?_ (fun L st C=>(b_cons (s_asg C 1 (r_fn GO h_counts_by_length C (by decide) (l_cons (r_loc C 0) (l_cons (r_fn GO h_greatest_length C (by decide) (l_cons (r_loc C 0) l_nil)) l_nil))))
      (b_cons (s_asgSw C (.cons (i:=2) rfl rfl (.cons (i:=3) rfl rfl .nil)) (r_tup (l_cons (r_bin (o_mul C) (r_list (l_cons r_int l_nil)) (r_call GO (r_blt GO C (v:=.builtin "len") (NB _ (by decide)) rfl) (.blt _) len_ok (l_cons (r_loc C 1) l_nil))) (l_cons r_int l_nil))))
      (b_cons (s_for C rfl (it_range2 GO (r_blt GO C (v:=.type "range") (NB _ (by decide)) rfl) (l_cons r_int (l_cons (r_call GO (r_blt GO C (v:=.builtin "len") (NB _ (by decide)) rfl) (.blt _) len_ok (l_cons (r_loc C 1) l_nil)) l_nil))) (k_range C (a_loc C 4)) (b_cons (s_set C (r_loc C 2) (r_loc C 4) (r_loc C 3))
      (b_one (s_aug C 3 o_iadd (r_item gi_ok (r_loc C 1) (r_loc C 4))))))
      (b_cons (s_asg C 5 (r_bin (o_mul C) (r_list (l_cons r_int l_nil)) (r_loc C 3)))
      (b_cons (s_for C rfl (it_enum GO (r_blt GO C (v:=.type "enumerate") (NB _ (by decide)) rfl) (r_loc C 0)) (k_enum C (a_loc C 6) (a_loc C 4)) (b_one (s_if (t_cmp1 o_gt (r_loc C 4) r_int) (b_cons (s_set C (r_loc C 5) (r_item gi_ok (r_loc C 2) (r_loc C 4)) (r_loc C 6))
      (b_one (s_augset C o_iadd gi_ok (r_loc C 2) (r_loc C 4) r_int))) b_nil)))
      (b_one (s_ret (r_loc C 5)))))))))
  rintro s args Q X H hb ⟨a,ns,h1,h2,hw,h3,h4⟩
  refine xA1_1 (map1 h1) ?_;intro u1 hT1;subst hT1;intro e1
  refine (xI1_2 [u1] rfl (.of_eq (by rfl)) ?_)
  show fnW _ 6 [er u1] Q X H
  rw [e1]
  have m0:=mx_0 ns
  have m11:=mx_11 hw.1
  have hsm:∀ k ∈ ns,small k:=fun k hk=>by have:=hw.1 k hk;exact ⟨by exact oA27 this,by exact oA28 this⟩
  refine xA1_0 (⟨(mx ns).toNat,by exact oA23 m0⟩:∃ M:Nat,mx ns = M) ?_;intro M hM
  refine ⟨a,ns,rfl,h2,hsm,a,ns,M,by rw [hM],h2,by exact oA124 h3,hsm,by exact oA9 m11 hM,fun hin Dc H1 hDc hc E1=>?_,fun hin=>(hin fun x hx=>⟨(hw.1 x hx).1,by rw [<- hM];exact le_mx x hx⟩).elim⟩
  refine ⟨by decide,fun D0 hD0=>?_⟩
  have hc0:=alloc_keep (m:=.list [.int 0]) hD0 hc
  refine onList_of hc0 ⟨by rw [tab_len];exact oA8 m11 hM,onList_of (upd_self _ _ _) ⟨⟨by exact oA63,by rw [tab_len];lia⟩,fun Dp hDp=>⟨Nat.le_of_ble_eq_true rfl,fun D2 hD2=>onTup_of (upd_self _ _ _) ⟨rfl,?_⟩⟩⟩⟩
  have hm1:((M + 1:Nat):Int).toNat = M + 1:=by exact oA48
  rw [tab_len,hm1,tab_rep] at hD2 ⊢
  generalize hH2:upd (upd (upd H1 D0 (.list [.int 0])) Dp (.list (tab (M + 1) fun zz=>0))) D2 (.tup [.ref Dp,.int 0]) = H2
  have E12:Ext H1 H2:=by rw [<- hH2];exact ((Ext.new hD0).trans (Ext.new hDp)).trans (Ext.new hD2)
  have p2:H2 Dp = some (.list (tab (M + 1) fun zz=>0)):=by rw [<- hH2];exact alloc_keep hD2 (upd_self _ _ _)
  have hDpn:H1 Dp = none:=none_keep (Ext.new hD0) hDp
  refine onList_of (E12 _ _ hc) ⟨by rw [tab_len];exact oA8 m11 hM,iR_up (by rw [tab_len];lia) ?_⟩
  have hm2:(((M + 1:Nat):Int) - 1).toNat = M:=by exact oA40
  rw [tab_len,hm2]
  refine forW_inv (fun xs ls HH=>Ext H1 HH /\ ∃ (l:Nat) (y4:V) (f:Nat -> Int),1 <= l /\ l <= M + 1 /\ xs = rangeL 1 (M + 1 - l) (l:Int) /\ ls = [.ref a,.ref Dc,.ref Dp,.int (pl ns (l - 1):Nat),y4,.unb,.unb] /\ HH Dp = some (.list (tab (M + 1) f)) /\ ∀ k,1 <= k -> k < l -> f k = (pl ns (k - 1):Nat)) ?_ ?_ ?_ _ _ _ ⟨E12,(xI3_5 1 (.unb) _ (by decide) (by exact oA68) rfl rfl p2 (fun k q1 q2=>by lia))⟩
  · intros;trivial
  · intro ls HH hT1;refine xA0_1 hT1 ?_;(try clear hT1);intro E hT2;refine xA3_5 hT2 ?_;(try clear hT2);intro l y4 f q1 q2 q3 hT3;subst hT3;intro q4 q5
    have:l = M + 1:=by
      have:=congrArg List.length q3
      rw [rangeL_len] at this
      simp at this;exact oA244 q2 this
    subst this
    rw [Nat.add_sub_cancel]
    have hpl:=pl_le ns M
    refine ⟨by decide,fun D5 hD5=>onList_of (upd_self _ _ _) ⟨⟨by exact oA63,by lia⟩,fun Df hDf=>?_⟩⟩
    have E1H:=E1.trans E
    have h2':=E1H _ _ h2
    rw [Int.toNat_natCast]
    generalize hH3:upd (upd HH D5 (.list [.int 0])) Df (.list (List.replicate (pl ns M) (.int 0))) = H3
    have E3:Ext HH H3:=by rw [<- hH3];exact (Ext.new hD5).trans (Ext.new hDf)
    have df3:H3 Df = some (.list (List.replicate (pl ns M) (.int 0))):=by rw [<- hH3,upd_self]
    have dfn:HH Df = none:=none_keep (Ext.new hD5) hDf
    have dfH:=none_keep E1H dfn
    have dpH:=none_keep E1 hDpn
    have hpf:Dp ≠ Df:=ne_of_none q4 dfn
    refine onList_of (E3 _ _ h2') ?_
    rw [enum_eq]
    refine forW_inv (fun xs ls HK=>Ext H HK /\ ∃ done rest f fs y4 y6,ns = done ++ rest /\ xs = enumL done.length rest /\ ls = [.ref a,.ref Dc,.ref Dp,.int (pl ns M:Nat),y4,.ref Df,y6] /\ HK Dp = some (.list (tab (M + 1) f)) /\ (∀ l:Nat,1 <= l -> l <= M -> f l = (pl ns (l - 1) + cnt done l:Nat)) /\ HK Df = some (.list fs) /\ fs.length = pl ns M /\ symP ns done fs) ?_ ?_ ?_ _ _ _ ⟨E1H.trans E3,(xI6_7 [] ns f _ y4 (.unb) rfl rfl rfl (E3 _ _ q4) (fun l g1 g2=>by rw [q5 l g1 (by exact oA254 g2)];rfl) df3 (by simp) (fun l j s g q=>by simp [idx] at q))⟩
    · intro xs ls HK hT1;refine xA0_1 hT1 ?_;(try clear hT1);intro E' _
      exact E' _ _ h2
    · intro ls HK hT1;refine xA0_1 hT1 ?_;(try clear hT1);intro E' hT2;refine xA6_7 hT2 ?_;(try clear hT2);intro done rest f fs y4 y6 f1 f2 hT3;subst hT3;intro f3 f4 f5 f6 f7
      cases rest with
      | cons x r => cases f2
      | nil =>
      rw [List.append_nil] at f1
      subst f1
      exact h4 Df HK fs dfH f5 (by lia) f7 E'
    · intro x xs ls HK K hT1 hK;refine xA0_1 hT1 ?_;(try clear hT1);intro E' hT2;refine xA6_7 hT2 ?_;(try clear hT2);intro done rest f fs y4 y6 f1 f2 hT3;subst hT3;intro f3 f4 f5 f6 f7
      cases rest with
      | nil => cases f2
      | cons k rest =>
      cases f2
      have hk:k ∈ ns:=by rw [f1];exact List.mem_append_right _ (.head _)
      have hk0:=(hw.1 k hk).1
      have hkM:=le_mx k hk
      have hlen:done.length < ns.length:=by rw [f1];simp
      have nx:enumL (done.length + 1) rest = enumL (done ++ [k]).length rest:=by simp
      refine ⟨fun q=>?_,fun q=>hK _ _ ⟨E',(xI6_7 (done ++ [k]) rest f fs (.int k) (.int done.length) (by rw [f1];simp) nx rfl f3 ?_ f5 f6 ?_)⟩⟩
      · refine xA1_0 (⟨k.toNat,by exact oA23 hk0⟩:∃ d:Nat,k = d) ?_;intro d hT1;subst hT1
        have hdM:d < M + 1:=by exact oA15 hM hkM
        have hcd:cnt done d < cnt ns d:=by
          have:=cnt_app_le (done ++ [(d:Int)]) rest d
          rw [cnt_snoc,if_pos rfl,List.append_assoc] at this
          have e:done ++ ([(d:Int)] ++ rest) = ns:=by rw [f1];rfl
          rw [e] at this;exact oA180 this
        have pd:=pl_pred ns (show 1 <= d by exact oA56 q)
        have pm:=pl_mono ns (show d <= M by exact oA16 hM hkM)
        have fd:=f4 d (by exact oA56 q) (by exact oA16 hM hkM)
        refine onLD_ofL f3 ⟨⟨by exact oA63,by exact oA7 m11 hkM⟩,(xI1_1 (.int (pl ns (d - 1) + cnt done d:Nat)) (by rw [<- fd];exact tab_get f hdM) (onLD_ofL f5 ⟨(xI0_2 (by exact oA158) (by exact oA367 f6 hcd pd pm) (by lia)),?_⟩))⟩
        have f3':=(upd_ne HK (.list (fs.set (pl ns (d - 1) + cnt done d) (.int done.length))) hpf).trans f3
        refine onLD_ofL f3' ⟨⟨by exact oA63,by exact oA7 m11 hkM⟩,(xI1_1 _ (tab_get f hdM) (onLD_ofL f3' ⟨(xI0_2 (by exact oA63) (by rw [tab_len];exact oA14 hM hkM) (by rw [tab_len];exact oA8 m11 hM)),hK _ _ ⟨?_,(xI6_7 (done ++ [(d:Int)]) rest (fun l=>if l = d then f d + 1 else f l) (fs.set (pl ns (d - 1) + cnt done d) (.int done.length)) (.int d) (.int done.length) (by rw [f1];simp) nx rfl ?_ ?_ ?_ (by simp [f6]) ?_)⟩⟩))⟩
        · intro b mo e
          rw [upd_ne _ _ (ne_of_none e dpH),upd_ne _ _ (ne_of_none e dfH)];exact E' b mo e
        · rw [upd_self]
          congr 2
          exact tab_set fun l=>rfl
        · intro l g1 g2
          show (if l = d then f d + 1 else f l) = _
          rw [cnt_snoc]
          by_cases z:l = d
          · subst z;rw [if_pos rfl,if_pos rfl,f4 l g1 g2];exact oA149
          · rw [if_neg z,if_neg (by exact oA270 z),f4 l g1 g2];exact oA150
        · rw [upd_ne _ _ hpf.symm];exact upd_self _ _ _
        · intro l j s g hj
          rw [idx_snoc] at hj
          rw [List.getElem?_set]
          have il:(idx done (l:Int) 0).length = cnt done l:=idx_len _ _ _
          have cle:cnt done l <= cnt ns l:=by rw [f1];exact cnt_app_le _ _ _
          rcases Nat.lt_or_ge j (cnt done l) with q | q
          · rw [List.getElem?_append_left (by exact oA310 il q)] at hj
            have z:¬ pl ns (d - 1) + cnt done d = pl ns (l - 1) + j:=fun z=>by
              refine xA0_1 (pl_apart (show 1 <= d by lia) g hcd (show j < cnt ns l by exact oA327 cle q) z) ?_;intro g1 g2
              subst g1;lia
            rw [if_neg z];exact f7 l j s g hj
          · rw [List.getElem?_append_right (by exact oA311 il q),il] at hj
            by_cases g1:(d:Int) = (l:Int)
            · obtain rfl:d = l:=by exact oA153 g1
              rw [if_pos rfl] at hj
              have:j = cnt done d:=by
                have:=(List.getElem?_eq_some_iff.mp hj).1
                simp at this;exact oA265 q this
              subst this
              rw [Nat.sub_self] at hj
              injection hj with hj
              rw [if_pos rfl,if_pos (by exact oA368 f6 hcd pd pm),hj]
            · rw [if_neg g1] at hj;simp at hj
      · intro l g1 g2
        rw [cnt_snoc,if_neg (by lia)];exact f4 l g1 g2
      · intro l j s g hj
        rw [idx_snoc,if_neg (by lia),List.append_nil] at hj
        exact f7 l j s g hj
  · intro x xs ls HH K hT1 hK;refine xA0_1 hT1 ?_;(try clear hT1);intro E hT2;refine xA3_5 hT2 ?_;(try clear hT2);intro l y4 f q1 q2 q3 hT3;subst hT3;intro q4 q5
    have hl:l <= M:=by
      rcases Nat.lt_or_ge M l with q | q
      · rw [show M + 1 - l = 0 by exact oA202 q] at q3;cases q3
      · exact q
    rw [show M + 1 - l = (M - l) + 1 by exact oA258 hl] at q3
    cases q3
    have lc:(l:Int) + 1 = ((l + 1:Nat):Int):=by exact oA50
    have hDc1:Dc ≠ Dp:=ne_of_none hc hDpn
    refine onLD_ofL q4 ⟨(xI0_2 (by exact oA63) (by rw [tab_len];exact oA247 hl) (by rw [tab_len];lia)),onLD_ofL ((upd_ne _ _ hDc1).trans (E _ _ hc)) ⟨⟨by lia,by lia⟩,(xI1_1 _ (tab_get _ (by lia)) ?_)⟩⟩
    have pd:=pl_pred ns q1
    refine hK _ _ ⟨?_,(xI3_5 (l + 1) (.int l) (fun k=>if k = l then (pl ns (l - 1):Nat) else f k) (by lia) (by lia) ?_ ?_ ?_ ?_)⟩
    · intro b mo e
      rw [upd_ne _ _ (ne_of_none e hDpn)];exact E b mo e
    · rw [lc];congr 1;lia
    · rw [Nat.add_sub_cancel,pd,Int.natCast_add];rfl
    · rw [upd_self]
      congr 2
      exact tab_set fun k=>rfl
    · intro k g1 g2
      show (if k = l then _ else f k) = _
      by_cases z:k = l
      · rw [if_pos z,z]
      · rw [if_neg z,q5 k g1 (by lia)]
end
noncomputable abbrev prAttrs (M:Int) (Lc Ls:Addr):MO:=.attrs [("most",.int M),("counts",.ref Lc),("symbols",.ref Ls)]
noncomputable def PRat (H:MH) (x:Addr) (ns:List Int):Prop:=∃ (dx Lc Ls:Addr) (fs:List V),H x = some (.inst NN.PR dx) /\ H dx = some (prAttrs (mx ns) Lc Ls) /\ H Lc = some (.list (tab ((mx ns).toNat + 1) fun l=>(cnt ns l:Nat))) /\ H Ls = some (.list fs) /\ fs.length <= 60 /\ symP ns ns fs
theorem PRat.keep {H H':MH} {x:Addr} {ns:List Int} (h:PRat H x ns) (e:Ext H H'):PRat H' x ns:=by
  refine xA4_5 h ?_;(try clear h);intro dx Lc Ls fs h1 h2 h3 h4 h5 h6
  exact (xI4_5 dx Lc Ls fs (e _ _ h1) (e _ _ h2) (e _ _ h3) (e _ _ h4) h5 h6)
theorem small_nat {a:Nat} (h:a < 2 ^ 60):small (a:Int):=⟨by exact oA53,by lia⟩
theorem bor_bit {a x:Nat} (hx:x < 2):Builtin.bitOr ((a:Int) * 2 ^ Int.toNat 1) (x:Nat) = ((2 * a + x:Nat):Int):=by
  have e:((a:Int) * 2 ^ Int.toNat 1) = ((a * 2 ^ 1:Nat):Int):=by simp
  have h:=bor_add (a:=x) (b:=a) (i:=1) (by omega)
  rw [e,bor_nat,Nat.or_comm]
  rw [bor_nat] at h
  rw [h];lia
theorem wOr_is {a b d:Int} {Q:QV} {X:XP} {H:MH} (e:Builtin.bitOr a b = d) (h:Q (.int d) H):wOr (.int a) (.int b) Q X H:=by
  show Q (.int (Builtin.bitOr a b)) H
  rw [e];exact h
section
variable {G:Gl} {c:Cx} {n:Nat}
inductive prinitC (args:List V) (Q:QV) (X:XP) (H:MH):Prop
  | mk (x dx a) (ns : List Int) (o1 : args = [.ref x,.ref a,.int 11]) (o2 : H x = some (.inst NN.PR dx)) (o3 : H dx = some (.attrs [])) (o4 : H a = some (.list (ns.map .int))) (o5 : ns.length <= 60) (o6 : ∀ x ∈ ns,small x) (o7 : whole ns -> ∀ H',PRat H' x ns -> ExtB [dx] H H' -> Q .none H') (o8 : ¬ whole ns -> ∀ H',Ext H H' -> X NN.BC H')
theorem prinit (FX:Facts G) {f:Addr} {v u:Value} (hu:er u = .bool false) (F:DefD G (clsFn 29 0) f "__init__" "PrefixReader.__init__" #[v,u]):FnOk G 8 (.ref f) prinitC:=by
  refine xA8_0 F ?_;(try clear F);intro T k oT doc pm an cdv ct hT1;refine xA0_2 hT1 ?_;(try clear hT1);intro hT hd F
  have GO:=FX.go
  have NB:=FX.nb
  have h_check_lengths:=lens' FX
  have h_counts_by_length:=counts' FX
  have h_greatest_length:=greatest' FX
  have h_by_length:=bylen' FX
  refine fn_plain (wb:=_) (names:=["self", "lengths", "longest", "lone"]) (k:=4) (m:=0) (n:=7) GO F (by decide +kernel) (by decide) rfl (by decide +kernel) ?_ (fun L st C=>(b_cons (s_expr (r_fn GO h_check_lengths C (by decide) (l_cons (r_loc C 1) (l_cons (r_loc C 2) (l_cons (r_loc C 3) l_nil)))) rfl)
      (b_cons (s_attr GO C (FX.PRa "most" (by decide)) (r_loc C 0) (r_fn GO h_greatest_length C (by decide) (l_cons (r_loc C 1) l_nil)))
      (b_cons (s_attr GO C (FX.PRa "counts" (by decide)) (r_loc C 0) (r_fn GO h_counts_by_length C (by decide) (l_cons (r_loc C 1) (l_cons (r_attr GO (FX.PRa "most" (by decide)) (r_loc C 0)) l_nil))))
      (b_one (s_attr GO C (FX.PRa "symbols" (by decide)) (r_loc C 0) (r_fn GO h_by_length C (by decide) (l_cons (r_loc C 1) l_nil))))))))
  rintro s args Q X H hb ⟨x,dx,a,ns,h1,h2,h3,h4,h5,h6,h7,h8⟩
  refine xA3_3 (map3 h1) ?_;intro u1 u2 u3 hT1;subst hT1;intro e1 e2 e3
  refine (xI1_2 [u1,u2,u3,u] rfl (binds_dflt hT hd hb rfl rfl rfl) ?_)
  show fnW _ 0 [er u1,er u2,er u3,er u] Q X H
  rw [e1,e2,e3,hu]
  have hne:x ≠ dx:=ne_of_mo h2 h3 (by intro q;cases q)
  have hax:a ≠ dx:=ne_of_mo h4 h3 (by intro q;cases q)
  refine ⟨a,ns,rfl,h4,by exact oA124 h5,h6,fun w H1 E1=>⟨rfl,⟨ a,ns,rfl,E1 _ _ h4,h6,?_⟩⟩,h8⟩
  have m0:=mx_0 ns
  have m11:=mx_11 w.1
  refine xA1_0 (⟨(mx ns).toNat,by exact oA23 m0⟩:∃ M:Nat,mx ns = M) ?_;intro M hM
  have hMt:(mx ns).toNat = M:=by exact oA6 hM
  rw [hM]
  refine hSet_is [("most",.int M)] (E1 _ _ h2) (E1 _ _ h3) ?_
  refine xA1_0 (⟨_,rfl⟩:∃ H2,H2 = upd H1 dx (.attrs [("most",.int M)])) ?_;intro H2 hH2
  rw [<- hH2]
  have k2:ExtB [dx] H H2:=by rw [hH2];exact (ExtB.of E1).set (.head _)
  have d2:H2 dx = some (.attrs [("most",.int M)]):=by rw [hH2,upd_self]
  have nx:x ∉ [dx]:=by simpa using hne
  have na:a ∉ [dx]:=by simpa using hax
  refine hAttr_of (k2 _ _ nx h2) d2 rfl ⟨a,ns,M,rfl,k2 _ _ na h4,by exact oA124 h5,h6,by exact oA9 m11 hM,fun hin Lc H3 hLc hc E3=>?_,fun hin=>(hin fun x hx=>⟨(w.1 x hx).1,by rw [<- hM];exact le_mx x hx⟩).elim⟩
  have x3:=E3 _ _ (k2 _ _ nx h2)
  have d3:=E3 _ _ d2
  refine hSet_is [("most",.int M),("counts",.ref Lc)] x3 d3 ?_
  refine xA1_0 (⟨_,rfl⟩:∃ H4,H4 = upd H3 dx (.attrs [("most",.int M),("counts",.ref Lc)])) ?_;intro H4 hH4
  rw [<- hH4]
  have k4:ExtB [dx] H H4:=by rw [hH4];exact (k2.trans (.of E3)).set (.head _)
  have d4:H4 dx = some (.attrs [("most",.int M),("counts",.ref Lc)]):=by rw [hH4,upd_self]
  have c4:H4 Lc = some (.list (tab (M + 1) fun l=>(cnt ns l:Nat))):=by rw [hH4,upd_ne _ _ (ne_of_mo hc d3 (by intro q;cases q))];exact hc
  refine ⟨a,ns,rfl,k4 _ _ na h4,w,h5,fun Ls H5 fs hLs hs hfl hsy E5=>?_⟩
  have x5:=E5 _ _ (k4 _ _ nx h2)
  have d5:=E5 _ _ d4
  refine hSet_is [("most",.int M),("counts",.ref Lc),("symbols",.ref Ls)] x5 d5 (h7 w _ (xI4_5 dx Lc Ls fs ?_ ?_ ?_ ?_ hfl hsy) ((k4.trans (.of E5)).set (.head _)))
  · rw [upd_ne _ _ hne];exact x5
  · rw [upd_self,hM]
  · rw [upd_ne _ _ (ne_of_mo (E5 _ _ c4) d5 (by intro q;cases q)),hMt];exact E5 _ _ c4
  · rw [upd_ne _ _ (ne_of_mo hs d5 (by intro q;cases q))];exact hs
inductive prC (args:List V) (Q:QV) (X:XP) (H:MH):Prop
  | mk (a) (ns : List Int) (o1 : args = [.ref a,.int 11]) (o2 : H a = some (.list (ns.map .int))) (o3 : ns.length <= 60) (o4 : ∀ x ∈ ns,small x) (o5 : whole ns -> ∀ x H',H x = none -> PRat H' x ns -> Ext H H' -> Q (.ref x) H') (o6 : ¬ whole ns -> ∀ H',Ext H H' -> X NN.BC H')
theorem pr' (FX:Facts G):Fn G "PrefixReader" 9 prC:=by
  refine xA3_2 FX.PRc ?_;intro f v u K F hu
  refine (K.fn' FX.go (prinit FX hu F)).mono ?_
  rintro vals Q X H ⟨a,ns,rfl,h4,h5,h6,h7,h8⟩ dx x hd hx hne
  have E0:=((Ext.rfl (H:=H)).fresh (m:=.attrs []) hd).fresh (m:=.inst NN.PR dx) hx
  refine ⟨x,dx,a,ns,rfl,by rw [upd_self],by rw [upd_ne _ _ hne.symm,upd_self],E0 _ _ h4,h5,h6,fun w H' g1 g2=>⟨rfl,h7 w x H' hx g1 fun b mo e=>?_⟩,fun w H' E=>h8 w _ (E0.trans E)⟩
  exact g2 b mo (by simpa using ne_of_none e hd) (E0 b mo e)
inductive prreadC (args:List V) (Q:QV) (X:XP) (H:MH):Prop
  | mk (x ns y dy b) (pos l j s Y R : Nat) (o1 : args = [.ref x,.ref y]) (o2 : PRat H x ns) (o3 : whole ns) (o4 : ns.length <= 60) (o5 : LRat H y dy b pos) (o6 : ∀ x ∈ b,x < 256) (o7 : b.length <= 100000) (o8 : 1 <= l) (o9 : l <= 11) (o10 : (idx ns l 0)[j]? = some s) (o11 : Y < 2048) (o12 : Y / 2 ^ (11 - l) = 2 * u ns (l - 1) + j) (o13 : pos + R = 8 * b.length) (o14 : ∀ i,i < l -> i < R -> leVal b / 2 ^ (pos + i) % 2 = Y / 2 ^ (10 - i) % 2) (o15 : l <= R -> ∀ H',Ext (upd H dy (lrAttrs b (pos + l : Nat))) H' -> Q (.int s) H') (o16 : R < l -> ∀ H',Ext (upd H dy (lrAttrs b (pos + R : Nat))) H' -> X NN.CS H')
theorem prread' (FX:Facts G):Mt G NN.PR "read" 9 prreadC:=FX.PR_read.mt fun f F=>by
  refine xA5_0 F ?_;(try clear F);intro doc pm an cdv ct F
  have GO:=FX.go
  have NB:=FX.nb
  have h_exc:=exc_init FX
  have h_LR_bit:=lrbit' FX
  refine fn_plain (wb:=_) (names:=["self", "bits", "code", "first", "place", "length", "count"]) (k:=2) (m:=5) (n:=8) GO F (by decide +kernel) (by decide) rfl (by decide +kernel) ?_ (fun L st C=>(b_cons (s_asgTc (a_tup (.cons (a_loc C 2) (.cons (a_loc C 3) (.cons (a_loc C 4) .nil))) (by intro _;rfl) (aLocs_reach [2,3,4])) (r_tup (l_cons r_int (l_cons r_int (l_cons r_int l_nil)))))
      (b_cons (s_for C rfl (it_range2 GO (r_blt GO C (v:=.type "range") (NB _ (by decide)) rfl) (l_cons r_int (l_cons (r_bin o_add (r_attr GO (FX.PRa "most" (by decide)) (r_loc C 0)) r_int) l_nil))) (k_range C (a_loc C 5)) (b_cons (s_asg C 2 (r_bin o_or (r_bin o_shl (r_loc C 2) r_int) (r_meth0 GO (own_m GO C h_LR_bit (by decide)) (r_loc C 1))))
      (b_cons (s_asg C 6 (r_itemA gi_ok (r_attr GO (FX.PRa "counts" (by decide)) (r_loc C 0)) (r_loc C 5)))
      (b_cons (s_if (t_cmp1 o_lt (r_bin o_sub (r_loc C 2) (r_loc C 3)) (r_loc C 6)) (b_one (s_ret (r_itemA gi_ok (r_attr GO (FX.PRa "symbols" (by decide)) (r_loc C 0)) (r_bin o_sub (r_bin o_add (r_loc C 4) (r_loc C 2)) (r_loc C 3))))) b_nil)
      (b_cons (s_aug C 4 o_iadd (r_loc C 6))
      (b_one (s_asg C 3 (r_bin o_shl (r_bin o_add (r_loc C 3) (r_loc C 6)) r_int))))))))
      (b_one s_never))))
  rintro s args Q X H hb ⟨x,ns,y,dy,b,pos,l,j,s,Y,R,h1,hp,hw,hl,hlr,h4,h5,l1,l2,hs,hY,hYl,hR,hbit,h7,h8⟩
  refine xA0_1 hlr ?_;(try clear hlr);intro h2 h3
  refine xA4_5 hp ?_;(try clear hp);intro dx Lc Ls fs g1 g2 g3 g4 g5 g6
  refine xA2_2 (map2 h1) ?_;intro u1 u2 hT1;subst hT1;intro e1 e2
  refine (xI1_2 [u1,u2] rfl (.of_eq (by rfl)) ?_)
  show fnW _ 5 [er u1,er u2] Q X H
  rw [e1,e2]
  have m0:=mx_0 ns
  have m11:=mx_11 hw.1
  refine xA1_0 (⟨(mx ns).toNat,by exact oA23 m0⟩:∃ M:Nat,mx ns = M) ?_;intro M hM
  have hMt:(mx ns).toNat = M:=by exact oA6 hM
  rw [hMt] at g3
  rw [hM] at g2
  refine ⟨Nat.le_of_ble_eq_true rfl,fun D0 hD0=>onTup_of (upd_self _ _ _) (hAttr_of (alloc_keep hD0 g1) (alloc_keep hD0 g2) rfl (iR_up (by lia) ?_))⟩
  have hM1:((M:Int) + 1 - 1).toNat = M:=by lia
  rw [hM1]
  have hlM:l <= M:=by
    have:(l:Int) <= mx ns:=le_mx _ (by
      refine xA1_2 ((idx_iff _ _ _ _ _).mp hs) ?_;intro s' q1 q2 q3
      exact List.mem_of_getElem? q2)
    exact oA16 hM this
  have hj:j < cnt ns l:=by
    have:=(List.getElem?_eq_some_iff.mp hs).1
    rw [idx_len] at this;exact this
  have xdy:x ≠ dy:=ne_of_mo g1 h3 (by intro q;cases q)
  have ddy:dx ≠ dy:=ne_of_mo g2 h3 (by simp)
  have cdy:Lc ≠ dy:=ne_of_mo g3 h3 (by intro q;cases q)
  have sdy:Ls ≠ dy:=ne_of_mo g4 h3 (by intro q;cases q)
  have ydy:y ≠ dy:=ne_of_mo h2 h3 (by intro q;cases q)
  have at0:∀ {k:Nat} {HH:MH},Ext (upd H dy (lrAttrs b (pos + k:Nat))) HH -> ∀ z mo,z ≠ dy -> H z = some mo -> HH z = some mo:=fun E z mo hz e=>E z mo (by rw [upd_ne _ _ hz];exact e)
  refine forW_inv (fun xs ls HH=>∃ (k:Nat) (y5 y6:V),k < l /\ k <= R /\ Ext (upd H dy (lrAttrs b (pos + k:Nat))) HH /\ xs = rangeL 1 (M - k) ((k + 1:Nat):Int) /\ ls = [.ref x,.ref y,.int (Y / 2 ^ (11 - k):Nat),.int (2 * u ns k:Nat),.int (pl ns k:Nat),y5,y6]) ?_ ?_ ?_ _ _ _ (xI3_4 0 (.unb) (.unb) (by exact oA69 l1) (Nat.zero_le _) ?_ rfl ?_)
  · intros;trivial
  · intro ls HH hT1;refine xA3_4 hT1 ?_;(try clear hT1);intro k y5 y6 q1 q2 E q3 hT2;subst hT2
    have:=congrArg List.length q3
    rw [rangeL_len] at this
    simp at this;lia
  · intro v xs ls HH K hT1 hK;refine xA3_4 hT1 ?_;(try clear hT1);intro k y5 y6 q1 q2 E q3 hT2;subst hT2
    rw [show M - k = (M - (k + 1)) + 1 by exact oA325 hlM q1] at q3
    cases q3
    have lc:((k + 1:Nat):Int) + 1 = ((k + 1 + 1:Nat):Int):=by exact oA46
    have yy:=at0 E _ _ ydy h2
    have dd:=E dy _ (upd_self _ _ _)
    have hYk:Y / 2 ^ (11 - k) < 2048:=Nat.lt_of_le_of_lt (Nat.div_le_self _ _) hY
    have hdiv:Y / 2 ^ (11 - k) = Y / 2 ^ (11 - (k + 1)) / 2:=half_div Y (by exact oA226 l2 q1)
    have huk:=whole_le hw (l:=k) (by exact oA228 l2 q1)
    have huk1:=whole_le hw (l:=k + 1) (by exact oA225 l2 q1)
    have p1:=Nat.pow_le_pow_right (n:=2) (by decide) (show k <= 11 by exact oA228 l2 q1)
    have p2:=Nat.pow_le_pow_right (n:=2) (by decide) (show k + 1 <= 11 by exact oA225 l2 q1)
    have us:u ns (k + 1) = 2 * u ns k + cnt ns (k + 1):=rfl
    have lr:LRat HH y dy b ((pos + k:Nat):Int):=⟨yy,dd⟩
    refine (xI0_2 (xI0_2 (small_nat (Nat.lt_trans hYk (by decide))) (by decide) (by decide)) lr.inst ⟨ y,dy,b,pos + k,rfl,lr,h4,h5,fun hin H1 E1=>?_,fun hout H1 E1=>?_⟩)
    · have hkR:k < R:=by exact oA337 hR hin
      have hb1:=hbit k q1 hkR
      have e10:11 - (k + 1) = 10 - k:=by lia
      have hc:2 * (Y / 2 ^ (11 - k)) + leVal b / 2 ^ (pos + k) % 2 = Y / 2 ^ (11 - (k + 1)):=by rw [hb1,hdiv,e10];exact oA167
      refine wOr_is (by rw [bor_bit (Nat.mod_lt _ (by decide)),hc]) ?_
      have E2:Ext (upd H dy (lrAttrs b (pos + (k + 1):Nat))) H1:=by
        have:=(E.upd dy (lrAttrs b (pos + k + 1:Nat))).trans E1
        rw [upd_upd] at this
        exact this
      have x1:=at0 E2 _ _ xdy g1
      have d1:=at0 E2 _ _ ddy g2
      have c1:=at0 E2 _ _ cdy g3
      have s1:=at0 E2 _ _ sdy g4
      refine hAttr_of x1 d1 rfl (onLD_ofL c1 ⟨⟨by exact oA62,by lia⟩,(xI1_1 (.int (cnt ns (k + 1):Nat)) (by rw [Int.toNat_natCast];exact tab_get _ (by exact oA326 hlM q1)) ⟨ fun q=>?_,fun q=>?_⟩)⟩)
      · by_cases z:k + 1 = l
        · subst z
          have e:((pl ns k:Nat):Int) + (Y / 2 ^ (11 - (k + 1)):Nat) - (2 * u ns k:Nat) = ((pl ns k + j:Nat):Int):=by
            have:Y / 2 ^ (11 - (k + 1)) = 2 * u ns k + j:=hYl
            exact oA357 this
          have g:=g6 (k + 1) j s (by exact oA68) hs
          rw [Nat.add_sub_cancel] at g
          have:=(List.getElem?_eq_some_iff.mp g).1
          exact hAttr_of x1 d1 rfl (onLD_ofL s1 ⟨⟨by rw [e];exact oA158,by rw [e];exact oA319 g5 this⟩,(xI1_1 _ (by rw [e,Int.toNat_natCast];exact g) (h7 (by exact oA336 hR hin) _ E2))⟩)
        · exfalso
          have bf:=before (ns:=ns) (Y:=Y) l2 (by exact oA342 hYl) (l - k - 2) (by exact oA162 l1)
          rw [show l - (l - k - 2 + 1) = k + 1 by lia] at bf
          lia
      · have z:¬ k + 1 = l:=fun z=>by
          subst z
          have:Y / 2 ^ (11 - (k + 1)) = 2 * u ns k + j:=hYl
          lia
        refine ⟨(xI0_2 ⟨by exact oA155,by exact oA353 huk1 p2 us⟩ (by decide) (by decide)),hK _ _ (xI3_4 (k + 1) (.int (k + 1:Nat)) (.int (cnt ns (k + 1):Nat)) (by exact oA212 q1 z) hkR E2 (by rw [lc]) ?_)⟩
        have e1:((2 * u ns k:Nat):Int) + (cnt ns (k + 1):Nat) = (u ns (k + 1):Nat):=by rw [us];exact oA148
        have e2:((u ns (k + 1):Nat):Int) * 2 ^ Int.toNat 1 = ((2 * u ns (k + 1):Nat):Int):=by
          show _ * 2 ^ 1 = _
          lia
        have e3:((pl ns k:Nat):Int) + (cnt ns (k + 1):Nat) = (pl ns (k + 1):Nat):=by
          have:pl ns (k + 1) = pl ns k + cnt ns (k + 1):=rfl
          exact oA305 this
        rw [<- e3,<- e2,<- e1];rfl
    · have hkR:k = R:=by lia
      subst hkR
      exact h8 q1 _ (E.trans E1)
  · intro z mo e
    by_cases q:z = dy
    · subst q
      rw [upd_self] at e
      cases e
      exact alloc_keep hD0 h3
    · rw [upd_ne _ _ q] at e
      exact alloc_keep hD0 e
  · have:Y / 2 ^ (11 - 0) = 0:=Nat.div_eq_of_lt hY
    rw [this];rfl
end
noncomputable def boxAt (H:MH) (D:Addr) (B:Nat):Prop:=∃ g m t:Nat,H D = some (.list [.int g,.int m,.int t]) /\ m < 10007 /\ t <= B
theorem boxAt.keep {H H':MH} {D:Addr} {B:Nat} (h:boxAt H D B) (e:Ext H H'):boxAt H' D B:=by
  refine xA3_2 h ?_;(try clear h);intro g m t h1 h2 h3
  exact (xI3_2 g m t (e _ _ h1) h2 h3)
theorem boxAt.mono {H:MH} {D:Addr} {B B':Nat} (h:boxAt H D B) (e:B <= B'):boxAt H D B':=by
  refine xA3_2 h ?_;(try clear h);intro g m t h1 h2 h3
  exact (xI3_2 g m t h1 h2 (by exact oA328 e h3))
section
variable {G:Gl} {c:Cx} {n:Nat}
theorem box' (FX:Facts G) {l:Addr} {its:Array Value} {ns:List Int} (hro:G.h₀.IsList l its) (hxs:its.toList.map er = ns.map V.int) (hz:its.size <= sizeLine):Fn G "_law_box" 2 (fun args Q X H=>args = [.ref l] /\ ∀ D H',H D = none -> boxAt H' D 0 -> Ext H H' -> Q (.ref D) H'):=FX.lw_box.fn fun fa F=>by
  refine xA5_0 F ?_;(try clear F);intro doc pm an cdv ct F
  have GO:=FX.go
  have NB:=FX.nb
  refine fn_plain (wb:=_) (names:=["script", "great", "mix", "cell"]) (k:=1) (m:=3) (n:=1) GO F (by decide +kernel) (by decide) rfl (by decide +kernel) ?_ (fun L st C=>(b_cons (s_asgTc (a_tup (.cons (a_loc C 1) (.cons (a_loc C 2) .nil)) (by intro _;rfl) (aLocs_reach [1,2])) (r_tup (l_cons r_int (l_cons r_int l_nil))))
      (b_cons (s_for C rfl (it_list (r_uptoRo hro hxs hz (r_loc C 0) r_int)) (k_list C (a_loc C 3)) (b_cons (s_asg C 2 (r_bin o_mod (r_bin o_add (r_bin (o_mul C) (r_loc C 2) r_int) (r_loc C 3)) r_int))
      (b_one (s_if (t_bool (t_and1 (t_cmp1 o_eq (r_loc C 1) r_int) (t_and1 (t_cmp1 o_ge (r_call GO (r_blt GO C (v:=.builtin "abs") (NB _ (by decide)) rfl) (.blt _) abs_ok (l_cons (r_loc C 3) l_nil)) (r_bin o_pow r_int r_int)) t_and0))) (b_one (s_asg C 1 (r_call GO (r_blt GO C (v:=.builtin "abs") (NB _ (by decide)) rfl) (.blt _) abs_ok (l_cons (r_loc C 3) l_nil)))) b_nil))))
      (b_one (s_ret (r_list (l_cons (r_loc C 1) (l_cons (r_loc C 2) (l_cons r_int l_nil)))))))))
  intro s args Q X H hb hT1;refine xA0_1 hT1 ?_;(try clear hT1);intro h1 h2
  refine xA1_1 (map1 h1) ?_;intro u hT1;subst hT1;intro e
  refine (xI1_2 [u] rfl (.of_eq (by rfl)) ?_)
  show fnW _ 3 [er u] Q X H
  rw [e]
  refine ⟨by decide,fun D0 hD0=>onTup_of (upd_self _ _ _) (xI0_2 rfl (by decide) (fun D1 hD1=>?_))⟩
  have ht:List.take (Int.toNat 40) (ns.map V.int) = (ns.take 40).map V.int:=by rw [List.map_take];rfl
  rw [ht]
  generalize hH1:upd (upd H D0 (.tup [.int 0,.int 5])) D1 (.list ((ns.take 40).map V.int)) = H1
  have E01:Ext H H1:=by rw [<- hH1];exact (Ext.new hD0).trans (Ext.new hD1)
  have l1:H1 D1 = some (.list ((ns.take 40).map V.int)):=by rw [<- hH1,upd_self]
  refine onList_of l1 ?_
  refine forW_inv (fun xs ls HH=>HH = H1 /\ ∃ (rest:List Int) (g m:Nat) (y:V),xs = rest.map .int /\ m < 10007 /\ ls = [.ref l,.int g,.int m,y]) ?_ ?_ ?_ _ _ _ ⟨rfl,(xI4_2 (ns.take 40) 0 5 (.unb) rfl (by decide) rfl)⟩
  · intro xs ls HH hT1;refine xA0_1 hT1 ?_;(try clear hT1);intro hT2;subst hT2;intro _
    exact l1
  · intro ls HH hT1;refine xA0_1 hT1 ?_;(try clear hT1);intro hT2;subst hT2;intro hT3;refine xA4_2 hT3 ?_;(try clear hT3);intro rest g m y q1 q2 hT4;subst hT4
    exact ⟨Nat.le_of_ble_eq_true rfl,fun D hD=>h2 D _ (none_keep E01 hD) (xI3_2 g m 0 (upd_self _ _ _) q2 (Nat.le_refl _)) (E01.trans (Ext.new hD))⟩
  · intro v xs ls HH K hT1 hK;refine xA0_1 hT1 ?_;(try clear hT1);intro hT2;subst hT2;intro hT3;refine xA4_2 hT3 ?_;(try clear hT3);intro rest g m y q1 q2 hT4;subst hT4
    cases rest with
    | nil => cases q1
    | cons k rest =>
    cases q1
    refine xA1_1 (?_:∃ mm:Nat,Int.fmod ((m:Int) * 31 + k) 10007 = mm /\ mm < 10007) ?_
    · refine (xI1_1 ((((m:Int) * 31 + k) % 10007).toNat) ?_ (by lia))
      rw [Int.fmod_eq_emod_of_nonneg _ (by decide)];lia
    intro mm e1 e2
    refine (xI0_3 (.inr ⟨by decide,by decide⟩) (by decide) (fun q=>(xI0_2 (xI0_2 ⟨by decide,by decide⟩ (by decide) (by decide)) (fun q2=>?_) (fun q2=>?_))) (fun q=>?_))
    · exact hK _ _ ⟨rfl,(xI4_2 rest k.natAbs mm (.int k) rfl e2 (by rw [<- e1];rfl))⟩
    · exact hK _ _ ⟨rfl,(xI4_2 rest g mm (.int k) rfl e2 (by rw [<- e1];rfl))⟩
    · exact hK _ _ ⟨rfl,(xI4_2 rest g mm (.int k) rfl e2 (by rw [<- e1];rfl))⟩
inductive takeC (args:List V) (Q:QV) (X:XP) (H:MH):Prop
  | mk (D) (many B : Nat) (o1 : args = [.ref D,.int many]) (o2 : 0 < many) (o3 : many <= 1000) (o4 : boxAt H D B) (o5 : B <= 1000) (o6 : ∀ (d : Nat) H',d < many -> boxAt H' D (B + 1) -> ExtB [D] H H' -> Q (.int d) H')
theorem take' (FX:Facts G):Fn G "_law_take" 2 takeC:=FX.lw_take.fn fun fa F=>by
  refine xA5_0 F ?_;(try clear F);intro doc pm an cdv ct F
  have GO:=FX.go
  have NB:=FX.nb
  refine fn_plain (wb:=_) (names:=["box", "many", "digit"]) (k:=2) (m:=1) (n:=1) GO F (by decide +kernel) (by decide) rfl (by decide +kernel) ?_ (fun L st C=>(b_cons (s_if (t_cmp1 o_gt (r_item gi_ok (r_loc C 0) r_int) r_int) (b_cons (s_asg C 2 (r_bin o_mod (r_item gi_ok (r_loc C 0) r_int) (r_loc C 1)))
      (b_cons (s_set C (r_loc C 0) r_int (r_bin o_fdiv (r_item gi_ok (r_loc C 0) r_int) (r_loc C 1)))
      (b_one (s_ret (r_loc C 2))))) b_nil)
      (b_cons (s_set C (r_loc C 0) r_int (r_bin o_add (r_item gi_ok (r_loc C 0) r_int) r_int))
      (b_one (s_ret (r_bin o_mod (r_bin o_fdiv (r_bin o_mod (r_bin o_pow (r_bin o_add (r_item gi_ok (r_loc C 0) r_int) (r_bin (o_mul C) r_int (r_item gi_ok (r_loc C 0) r_int))) r_int) r_int) r_int) (r_loc C 1)))))))
  rintro s args Q X H hb ⟨D,many,B,h1,h2,h3,⟨g,m,t,h4,h5,h6⟩,h7,h8⟩
  refine xA2_2 (map2 h1) ?_;intro u v hT1;subst hT1;intro e1 e2
  refine (xI1_2 [u,v] rfl (.of_eq (by rfl)) ?_)
  show fnW _ 1 [er u,er v] Q X H
  rw [e1,e2]
  have box1:∀ (g m t:Nat),m < 10007 -> t <= B + 1 -> boxAt (upd H D (.list [.int g,.int m,.int t])) D (B + 1):=fun g m t q1 q2=>(xI3_2 g m t (upd_self _ _ _) q1 q2)
  have hmany:(0:Int) < many:=by exact oA57 h2
  refine onLD_ofL h4 ⟨by decide,(xI1_1 _ rfl ⟨ fun q=>?_,fun q=>?_⟩)⟩
  · refine onLD_ofL h4 ⟨by decide,(xI1_1 _ rfl ⟨ hmany,onLD_ofL h4 ⟨by decide,(xI1_1 _ rfl ⟨ (xI0_2 hmany (by exact oA53) (by lia)),onLD_ofL h4 ⟨(xI0_2 (by decide) (by show (0:Int) < (3:Nat);decide) (Nat.le_of_ble_eq_true rfl)),?_⟩⟩)⟩⟩)⟩
    have e1:Int.fmod (g:Int) many = ((g % many:Nat):Int):=by rw [Int.fmod_eq_emod_of_nonneg _ (by exact oA63)];simp
    have e2:Int.fdiv (g:Int) many = ((g / many:Nat):Int):=by rw [Int.fdiv_eq_ediv_of_nonneg _ (by exact oA63)];simp
    rw [e1,e2]
    exact h8 _ _ (Nat.mod_lt _ h2) (box1 _ _ _ h5 (by exact oA256 h6)) (ExtB.rfl.set (.head _))
  · refine onLD_ofL h4 ⟨by decide,(xI1_1 _ rfl (onLD_ofL h4 ⟨(xI0_2 (by decide) (by show (2:Int) < (3:Nat);decide) (Nat.le_of_ble_eq_true rfl)),?_⟩))⟩
    refine onLD_ofL (upd_self _ _ _) ⟨by decide,(xI1_1 _ rfl (onLD_ofL (upd_self _ _ _) ⟨by decide,(xI1_1 _ rfl ⟨ .inl ⟨by decide,by decide⟩,(xI0_2 ⟨by exact oA156,by lia⟩ (by decide) (by decide)),by decide,(xI0_2 (by decide) (by decide) (by decide)),hmany,?_⟩)⟩))⟩
    have e:∀ a:Int,∃ d:Nat,d < many /\ Int.fmod a many = d:=fun a=>by
      refine (xI1_1 ((Int.fmod a many).toNat) ?_ ?_)
      · have h0:=Int.fmod_nonneg_of_pos a hmany
        have h1:=Int.fmod_lt_of_pos a hmany
        exact oA35 h2 h1
      · have h0:=Int.fmod_nonneg_of_pos a hmany
        exact oA23 h0
    refine xA1_1 (e (((((m:Int) + 57 * ((t:Int) + 1)) ^ Int.toNat 3).fmod 10007).fdiv 3)) ?_;intro d d1 d2
    rw [d2]
    exact h8 _ _ d1 (box1 g m (t + 1) h5 (by exact oA252 h6)) (ExtB.rfl.set (.head _))
end
theorem none_keepB {H H':MH} {l:List Addr} {D:Addr} (e:ExtB l H H') (hD:D ∉ l) (h:H' D = none):H D = none:=by
  cases q:H D with
  | none => rfl
  | some mo => rw [e D mo hD q] at h;cases h
theorem ne_box {H:MH} {D E:Addr} {B:Nat} (h:boxAt H D B) (e:H E = none):E ∉ [D]:=fun q=>by
  refine xA3_1 h ?_;(try clear h);intro g m t h1 _
  rw [List.mem_singleton] at q
  subst q;rw [e] at h1;cases h1
theorem psum_app (M:Nat):∀ a b:List Int,psum M (a ++ b) = psum M a + psum M b
  | [],b => by show psum M b = 0 + psum M b;exact oA99
  | x :: r,b => by
    show (if 0 < x then 2 ^ (M - x.toNat) else 0) + psum M (r ++ b) = (if 0 < x then 2 ^ (M - x.toNat) else 0) + psum M r + psum M b
    rw [psum_app M r b];exact oA286
theorem psum_ins (M:Nat) (ns:List Int) (k:Nat) (v:Int):psum M (ns.take k ++ v :: ns.drop k) = psum M ns + psum M [v]:=by
  have h:=psum_app M (ns.take k) (ns.drop k)
  rw [List.take_append_drop] at h
  rw [psum_app,h]
  show _ + ((if 0 < v then 2 ^ (M - v.toNat) else 0) + psum M (ns.drop k)) = _ + _ + ((if 0 < v then 2 ^ (M - v.toNat) else 0) + 0)
  exact oA287
theorem psum_set (M:Nat):∀ (ns:List Int) (i:Nat) (x v:Int),ns[i]? = some x -> psum M (ns.set i v) + psum M [x] = psum M ns + psum M [v]
  | [],i,x,v,h => by simp at h
  | y :: r,0,x,v,h => by
    simp at h;subst h
    show (if 0 < v then 2 ^ (M - v.toNat) else 0) + psum M r + ((if 0 < y then 2 ^ (M - y.toNat) else 0) + 0) = (if 0 < y then 2 ^ (M - y.toNat) else 0) + psum M r + ((if 0 < v then 2 ^ (M - v.toNat) else 0) + 0)
    exact oA290
  | y :: r,i + 1,x,v,h => by
    have:=psum_set M r i x v h
    show (if 0 < y then 2 ^ (M - y.toNat) else 0) + psum M (r.set i v) + psum M [x] = (if 0 < y then 2 ^ (M - y.toNat) else 0) + psum M r + psum M [v]
    exact oA355 this
theorem psum_part {ns:List Int} {i:Nat} {x:Int} (h:ns[i]? = some x) (h1:1 <= x) (h2:x + 1 <= 11) (k:Nat):psum 11 ((ns.set i (x + 1)).take k ++ (x + 1) :: (ns.set i (x + 1)).drop k) = psum 11 ns:=by
  rw [psum_ins]
  have h3:=psum_set 11 ns i x (x + 1) h
  have e1:psum 11 [x] = 2 * psum 11 [x + 1]:=by
    show (if 0 < x then 2 ^ (11 - x.toNat) else 0) + 0 = 2 * ((if 0 < x + 1 then 2 ^ (11 - (x + 1).toNat) else 0) + 0)
    rw [if_pos (by exact oA30 h1),if_pos (by lia)]
    have:11 - x.toNat = (11 - (x + 1).toNat) + 1:=by lia
    rw [this,Nat.pow_succ];exact oA82
  exact oA339 h3 e1
section
variable {G:Gl} {c:Cx} {n:Nat}
noncomputable abbrev takeW:List V -> WV:=takeC
theorem first_idx {k:Int}:∀ {ns:List Int},k ∈ ns -> ∃ j:Nat,ns[j]? = some k /\ ∀ m,m < j -> ns[m]? ≠ some k
  | x :: r,h => by
    by_cases q:x = k
    · exact (xI1_1 0 (by simp [q]) (fun m hm=>absurd hm (Nat.not_lt_zero _)))
    · rcases List.mem_cons.mp h with rfl | h
      · exact absurd rfl q
      · refine xA1_1 (first_idx h) ?_;intro j h1 h2
        refine (xI1_1 (j + 1) h1 (fun m hm=>?_))
        cases m with
        | zero => simp [q]
        | succ m => exact h2 m (by exact oA177 hm)
theorem spot_ok {D E:Addr} {most deep B:Nat} {ns:List Int} {y4 y5 y6:V} {HH:MH} {R:WS} {K:QL} {Q:QV} {X:XP} (f1:HH E = some (.list (ns.map .int))) (hb:boxAt HH D B) (hB:B <= 1000) (h2:0 < ns.length) (h3:ns.length <= 1000)
    (tail:∀ (i:Nat) HH1,i < ns.length -> boxAt HH1 D (B + 1) -> ExtB [D] HH HH1 -> R [.ref D,.int most,.ref E,.int deep,y4,.int i,y6] K Q X HH1) :
    sSeq (sAsg 5 (wIf (tBin wEq (wLoc 3) (wInt 0)) (wMeth isListV idxW (wLoc 2) (lCons (wCall maxW (lCons (wLoc 2) lNil)) lNil)) (wCall takeW (lCons (wLoc 0) (lCons (wCall lenW (lCons (wLoc 2) lNil)) lNil))))) R [.ref D,.int most,.ref E,.int deep,y4,y5,y6] K Q X HH:=by
  refine ⟨fun zz=>⟨(xI2_1 E _ rfl f1),(xI1_2 ns f1 h2 (fun M hM hMx=>?_))⟩,fun zz=>onList_of f1 ⟨by rw [List.length_map];exact oA106 h3,⟨ D,ns.length,B,by show [V.ref D,V.int ((ns.map V.int).length:Nat)] = _;rw [List.length_map],h2,h3,hb,hB,fun d H1 hd b1 x1=>tail d H1 hd b1 x1⟩⟩⟩
  refine xA1_1 (first_idx hM) ?_;intro j j1 j2
  exact (xI1_2 ns f1 (by exact oA106 h3) (xI1_2 j j1 j2 (tail j HH (List.getElem?_eq_some_iff.mp j1).1 (hb.mono (by lia)) ExtB.rfl)))
inductive lengthsC (args:List V) (Q:QV) (X:XP) (H:MH):Prop
  | mk (D) (most B : Nat) (o1 : args = [.ref D,.int most]) (o2 : 0 < most) (o3 : most <= 11) (o4 : boxAt H D B) (o5 : B <= 100) (o6 : ∀ E H' ns,H E = none -> H' E = some (.list (ns.map .int)) -> whole ns -> 2 <= ns.length -> ns.length <= 15 -> boxAt H' D (B + 40) -> ExtB [D] H H' -> Q (.ref E) H')
theorem lengths' (FX:Facts G):Fn G "_law_lengths" 3 lengthsC:=FX.lw_lengths.fn fun fa F=>by
  refine xA5_0 F ?_;(try clear F);intro doc pm an cdv ct F
  have GO:=FX.go
  have NB:=FX.nb
  have h__law_take:=take' FX
  refine fn_plain (wb:=_) (names:=["box", "most", "found", "deep", "turn", "spot", "more"]) (k:=2) (m:=5) (n:=2) GO F (by decide +kernel) (by decide) rfl (by decide +kernel) ?_ (fun L st C=>(b_cons (s_asgSw C (.cons (i:=2) rfl rfl (.cons (i:=3) rfl rfl .nil)) (r_tup (l_cons (r_list (l_cons r_int (l_cons r_int l_nil))) (l_cons (r_fn GO h__law_take C (by decide) (l_cons (r_loc C 0) (l_cons r_int l_nil))) l_nil))))
      (b_cons (s_for C rfl (it_range1 GO (r_blt GO C (v:=.type "range") (NB _ (by decide)) rfl) (l_cons (r_fn GO h__law_take C (by decide) (l_cons (r_loc C 0) (l_cons (r_loc C 1) l_nil))) l_nil)) (k_range C (a_loc C 4)) (b_cons (s_asg C 5 (r_ifexp (t_cmp1 o_eq (r_loc C 3) r_int) (r_meth GO (m_index C) (r_loc C 2) (l_cons (r_call GO (r_blt GO C (v:=.builtin "max") (NB _ (by decide)) rfl) (.blt _) (max_ok C) (l_cons (r_loc C 2) l_nil)) l_nil)) (r_fn GO h__law_take C (by decide) (l_cons (r_loc C 0) (l_cons (r_call GO (r_blt GO C (v:=.builtin "len") (NB _ (by decide)) rfl) (.blt _) len_ok (l_cons (r_loc C 2) l_nil)) l_nil)))))
      (b_cons (s_asg C 6 (r_bin o_add (r_item gi_ok (r_loc C 2) (r_loc C 5)) r_int))
      (b_cons (s_set C (r_loc C 2) (r_loc C 5) (r_loc C 6))
      (b_one (s_expr (r_meth GO (m_insert C) (r_loc C 2) (l_cons (r_fn GO h__law_take C (by decide) (l_cons (r_loc C 0) (l_cons (r_bin o_add (r_call GO (r_blt GO C (v:=.builtin "len") (NB _ (by decide)) rfl) (.blt _) len_ok (l_cons (r_loc C 2) l_nil)) r_int) l_nil))) (l_cons (r_loc C 6) l_nil))) rfl))))))
      (b_cons (s_for C rfl (it_range1 GO (r_blt GO C (v:=.type "range") (NB _ (by decide)) rfl) (l_cons (r_fn GO h__law_take C (by decide) (l_cons (r_loc C 0) (l_cons r_int l_nil))) l_nil)) (k_range C (a_loc C 4)) (b_one (s_expr (r_meth GO (m_insert C) (r_loc C 2) (l_cons (r_fn GO h__law_take C (by decide) (l_cons (r_loc C 0) (l_cons (r_bin o_add (r_call GO (r_blt GO C (v:=.builtin "len") (NB _ (by decide)) rfl) (.blt _) len_ok (l_cons (r_loc C 2) l_nil)) r_int) l_nil))) (l_cons r_int l_nil))) rfl)))
      (b_one (s_ret (r_loc C 2)))))))
  rintro s args Q X H hb ⟨D,most,B,h1,h2,h3,h4,h5,h6⟩
  refine xA2_2 (map2 h1) ?_;intro u v hT1;subst hT1;intro e1 e2
  refine (xI1_2 [u,v] rfl (.of_eq (by rfl)) ?_)
  show fnW _ 5 [er u,er v] Q X H
  rw [e1,e2]
  refine ⟨by decide,fun E hE=>⟨D,3,B,rfl,by decide,by decide,h4.keep (Ext.new hE),by lia,fun deep H1 hdp b1 x1=>⟨Nat.le_of_ble_eq_true rfl,fun T hT=>onTup_of (upd_self _ _ _) ⟨rfl,?_⟩⟩⟩⟩
  have ED:=ne_box h4 hE
  have e1:H1 E = some (.list [.int 1,.int 1]):=x1 _ _ ED (upd_self _ _ _)
  have x1':ExtB [D] H H1:=(ExtB.of (Ext.new hE)).trans x1
  refine ⟨D,most,B + 1,rfl,h2,by lia,b1.keep (Ext.new hT),by lia,fun tn H2 htn b2 x2=>iR_up (by lia) ?_⟩
  have x2':ExtB [D] H H2:=(x1'.trans (.of (Ext.new hT))).trans x2
  have e2:H2 E = some (.list [.int 1,.int 1]):=x2 _ _ ED (alloc_keep hT e1)
  have htn':((tn:Int) - 0).toNat = tn:=by exact oA43
  rw [htn']
  refine forW_inv (fun xs ls HH=>ExtB [D] H HH /\ ∃ (ns:List Int) (y4 y5 y6:V),HH E = some (.list (ns.map .int)) /\ (∀ x ∈ ns,1 <= x /\ x + xs.length <= 11) /\ psum 11 ns = 2048 /\ ns.length + xs.length <= 12 /\ 2 <= ns.length /\ boxAt HH D (B + 22 - 2 * xs.length) /\ xs.length <= 10 /\ ls = [.ref D,.int most,.ref E,.int deep,y4,y5,y6]) ?_ ?_ ?_ _ _ _ ⟨x2',⟨ [1,1],.unb,.unb,.unb,e2,?_,by decide,?_,by decide,?_,?_,rfl⟩⟩
  · intros;trivial
  · intro ls HH hT1;refine xA0_1 hT1 ?_;(try clear hT1);intro xH hT2;refine xA4_0 hT2 ?_;(try clear hT2);intro ns y4 y5 y6 hT3;refine xA0_7 hT3 ?_;(try clear hT3);intro f1 f2 f3 f4 f5 f6 f7 hT4;subst hT4
    simp only [List.length_nil,Nat.add_zero,Nat.mul_zero,Nat.sub_zero] at f2 f4 f6
    refine ⟨D,4,B + 22,rfl,by decide,by decide,f6,by lia,fun tz H3 htz b3 x3=>iR_up (by lia) ?_⟩
    have e3:=x3 _ _ ED f1
    have htz':((tz:Int) - 0).toNat = tz:=by exact oA43
    rw [htz']
    refine forW_inv (fun xs ls HK=>ExtB [D] H HK /\ ∃ (ns:List Int) (y4:V),HK E = some (.list (ns.map .int)) /\ (∀ x ∈ ns,0 <= x /\ x <= 11) /\ psum 11 ns = 2048 /\ ns.length + xs.length <= 15 /\ 2 <= ns.length /\ boxAt HK D (B + 30 - xs.length) /\ xs.length <= 3 /\ ls = [.ref D,.int most,.ref E,.int deep,y4,y5,y6]) ?_ ?_ ?_ _ _ _ ⟨xH.trans x3,(xI2_7 ns y4 e3 ?_ f3 ?_ f5 ?_ ?_ rfl)⟩
    · intros;trivial
    · intro ls HK hT1;refine xA0_1 hT1 ?_;(try clear hT1);intro xK hT2;refine xA2_0 hT2 ?_;(try clear hT2);intro ns y4 hT3;refine xA0_7 hT3 ?_;(try clear hT3);intro g1 g2 g3 g4 g5 g6 g7 hT4;subst hT4
      exact h6 E HK ns hE g1 ((whole_11 g2).mpr g3) g5 (by simpa using g4) (g6.mono (by simp)) xK
    · intro v xs ls HK K hT1 hK;refine xA0_1 hT1 ?_;(try clear hT1);intro xK hT2;refine xA2_0 hT2 ?_;(try clear hT2);intro ns y4 hT3;refine xA0_7 hT3 ?_;(try clear hT3);intro g1 g2 g3 g4 g5 g6 g7 hT4;subst hT4
      have hxl:(v :: xs).length = xs.length + 1:=rfl
      rw [hxl] at g4 g6 g7
      refine ⟨(xI2_1 E _ rfl g1),onList_of g1 ⟨by rw [List.length_map];exact oA174 g4,⟨ D,ns.length + 1,_,by show [V.ref D,V.int (((ns.map V.int).length:Nat) + 1)] = _;rw [List.length_map];rfl,by lia,by lia,g6,by exact oA222 h5,fun d H4 hd b4 x4=>?_⟩⟩⟩
      have e4:=x4 _ _ ED g1
      refine onList_of e4 (xI0_2 (xI0_2 (by exact oA63) (by rw [List.length_map];exact oA193 hd) (by rw [List.length_map];exact oA174 g4)) rfl ?_)
      rw [Int.toNat_natCast]
      have hmi:List.take d (ns.map V.int) ++ V.int 0 :: List.drop d (ns.map V.int) = (ns.take d ++ 0 :: ns.drop d).map V.int:=by
        rw [List.map_append,List.map_cons,List.map_take,List.map_drop]
      rw [hmi]
      have DE:D ≠ E:=fun q=>ED (by rw [q];exact .head _)
      refine hK _ _ ⟨?_,(xI2_7 (ns.take d ++ 0 :: ns.drop d) v (upd_self _ _ _) ?_ ?_ ?_ ?_ ?_ (by exact oA87 g7) rfl)⟩
      · intro b mo hbD e
        rw [upd_ne _ _ (ne_of_none e hE)]
        exact x4 b mo hbD (xK b mo hbD e)
      · intro z hz
        rcases List.mem_append.mp hz with q | q
        · exact g2 z (List.mem_of_mem_take q)
        · rcases List.mem_cons.mp q with rfl | q
          · decide
          · exact g2 z (List.mem_of_mem_drop q)
      · rw [psum_ins,g3];rfl
      · rw [List.length_append,List.length_cons,List.length_take,List.length_drop];lia
      · rw [List.length_append,List.length_cons,List.length_take,List.length_drop];exact oA168 g5
      · refine xA3_2 b4 ?_;(try clear b4);intro g mm t k1 k2 k3
        exact (xI3_2 g mm t (by rw [upd_ne _ _ DE];exact k1) k2 (by exact oA288 g7 k3))
    · intro x hx
      have:=f2 x hx;simp at this;lia
    · rw [rangeL_len];exact oA232 f4 htz
    · rw [rangeL_len];exact b3.mono (by exact oA191 htz)
    · rw [rangeL_len];exact oA94 htz
  · intro v xs ls HH K hT1 hK;refine xA0_1 hT1 ?_;(try clear hT1);intro xH hT2;refine xA4_0 hT2 ?_;(try clear hT2);intro ns y4 y5 y6 hT3;refine xA0_7 hT3 ?_;(try clear hT3);intro f1 f2 f3 f4 f5 f6 f7 hT4;subst hT4
    have hxl:(v :: xs).length = xs.length + 1:=rfl
    rw [hxl] at f2 f4 f6 f7
    refine spot_ok f1 f6 (by exact oA221 h5) (by exact oA74 f5) (by lia) fun i HH1 hi b1 x1=>?_
    have g1:=x1 _ _ ED f1
    refine xA1_0 (⟨_,List.getElem?_eq_getElem hi⟩:∃ x,ns[i]? = some x) ?_;intro x hx
    have hxm:=f2 x (List.mem_of_getElem? hx)
    have hmx:(ns.map V.int)[i]? = some (.int x):=by rw [List.getElem?_map,hx];rfl
    have hms:(ns.map V.int).set i (.int (x + 1)) = (ns.set i (x + 1)).map V.int:=by rw [List.map_set]
    refine onLD_ofL g1 ⟨⟨by exact oA63,by lia⟩,(xI1_1 (.int x) (by rw [Int.toNat_natCast];exact hmx) (onLD_ofL g1 ⟨(xI0_2 (by exact oA63) (by rw [List.length_map];exact oA197 hi) (by rw [List.length_map];exact oA173 f4)),?_⟩))⟩
    rw [Int.toNat_natCast,hms]
    have DE:D ≠ E:=fun q=>ED (by rw [q];exact .head _)
    have b1':∀ m,boxAt (upd HH1 E m) D (B + 22 - 2 * (xs.length + 1) + 1):=fun m=>by
      refine xA3_2 b1 ?_;(try clear b1);intro g mm t k1 k2 k3
      exact (xI3_2 g mm t (by rw [upd_ne _ _ DE];exact k1) k2 k3)
    refine ⟨(xI2_1 E _ rfl (upd_self _ _ _)),onList_of (upd_self _ _ _) ⟨by rw [List.length_map,List.length_set];exact oA173 f4,⟨ D,ns.length + 1,_,by show [V.ref D,V.int ((((ns.set i (x + 1)).map V.int).length:Nat) + 1)] = _;rw [List.length_map,List.length_set];rfl,by lia,by lia,b1' _,by exact oA220 h5,fun d H3 hd b3 x3=>?_⟩⟩⟩
    have g3:=x3 _ _ ED (upd_self _ _ _)
    refine onList_of g3 (xI0_2 (xI0_2 (by exact oA63) (by rw [List.length_map,List.length_set];exact oA193 hd) (by rw [List.length_map,List.length_set];exact oA173 f4)) rfl ?_)
    rw [Int.toNat_natCast]
    have hmi:List.take d ((ns.set i (x + 1)).map V.int) ++ V.int (x + 1) :: List.drop d ((ns.set i (x + 1)).map V.int) = ((ns.set i (x + 1)).take d ++ (x + 1) :: (ns.set i (x + 1)).drop d).map V.int:=by
      rw [List.map_append,List.map_cons,List.map_take,List.map_drop]
    rw [hmi]
    refine hK _ _ ⟨?_,⟨ (ns.set i (x + 1)).take d ++ (x + 1) :: (ns.set i (x + 1)).drop d,v,.int i,.int (x + 1),upd_self _ _ _,?_,?_,?_,?_,?_,by exact oA85 f7,rfl⟩⟩
    · intro b mo hbD e
      rw [upd_ne _ _ (ne_of_none e hE)]
      refine x3 b mo hbD ?_
      rw [upd_ne _ _ (ne_of_none e hE)]
      exact x1 b mo hbD (xH b mo hbD e)
    · intro z hz
      have hz':z = x + 1 ∨ z ∈ ns:=by
        rcases List.mem_append.mp hz with q | q
        · rcases List.mem_or_eq_of_mem_set (List.mem_of_mem_take q) with q | q
          · exact .inr q
          · exact .inl q
        · rcases List.mem_cons.mp q with q | q
          · exact .inl q
          · rcases List.mem_or_eq_of_mem_set (List.mem_of_mem_drop q) with q | q
            · exact .inr q
            · exact .inl q
      rcases hz' with rfl | q
      · lia
      · have:=f2 z q;lia
    · rw [psum_part hx hxm.1 (by exact oA1 hxm)];exact f3
    · rw [List.length_append,List.length_cons,List.length_take,List.length_drop,List.length_set];lia
    · rw [List.length_append,List.length_cons,List.length_take,List.length_drop,List.length_set];exact oA168 f5
    · refine xA3_2 b3 ?_;(try clear b3);intro g mm t k1 k2 k3
      exact (xI3_2 g mm t (by rw [upd_ne _ _ DE];exact k1) k2 (by lia))
  · rw [rangeL_len]
    intro x hx
    simp at hx
    lia
  · rw [rangeL_len];simp;lia
  · rw [rangeL_len];exact b2.mono (by lia)
  · rw [rangeL_len];lia
end
noncomputable def rowOk (ns:List Int):Prop:=1 <= ns.length /\ ns.length <= 17 /\ ∀ x ∈ ns,-1 <= x /\ x <= 12
section
variable {G:Gl} {c:Cx} {n:Nat}
inductive nearC (args:List V) (Q:QV) (X:XP) (H:MH):Prop
  | mk (D a) (B : Nat) (ns : List Int) (o1 : args = [.ref D,.ref a]) (o2 : a ≠ D) (o3 : H a = some (.list (ns.map .int))) (o4 : inRange ns) (o5 : 2 <= ns.length) (o6 : ns.length <= 15) (o7 : boxAt H D B) (o8 : B <= 200) (o9 : ∀ E H' ns',H E = none -> H' E = some (.list (ns'.map .int)) -> rowOk ns' -> boxAt H' D (B + 3) -> ExtB [D] H H' -> Q (.ref E) H')
theorem near' (FX:Facts G):Fn G "_law_near" 3 nearC:=FX.lw_near.fn fun fa F=>by
  refine xA5_0 F ?_;(try clear F);intro doc pm an cdv ct F
  have GO:=FX.go
  have NB:=FX.nb
  have h__law_take:=take' FX
  refine fn_plain (wb:=_) (names:=["box", "lengths", "way", "spot", "found"]) (k:=2) (m:=3) (n:=2) GO F (by decide +kernel) (by decide) rfl (by decide +kernel) ?_ (fun L st C=>(b_cons (s_asgSw C (.cons (i:=2) rfl rfl (.cons (i:=3) rfl rfl (.cons (i:=4) rfl rfl .nil))) (r_tup (l_cons (r_fn GO h__law_take C (by decide) (l_cons (r_loc C 0) (l_cons r_int l_nil))) (l_cons (r_fn GO h__law_take C (by decide) (l_cons (r_loc C 0) (l_cons (r_call GO (r_blt GO C (v:=.builtin "len") (NB _ (by decide)) rfl) (.blt _) len_ok (l_cons (r_loc C 1) l_nil)) l_nil))) (l_cons (r_call GO (r_blt GO C (v:=.type "list") (NB _ (by decide)) rfl) (.type _) list_ok (l_cons (r_loc C 1) l_nil)) l_nil)))))
      (b_cons (s_if (t_cmp1 o_eq (r_loc C 2) r_int) (b_one (s_set C (r_loc C 4) (r_loc C 3) (r_bin o_add (r_item gi_ok (r_loc C 4) (r_loc C 3)) r_int))) (b_one (s_if (t_cmp1 o_eq (r_loc C 2) r_int) (b_one (s_set C (r_loc C 4) (r_loc C 3) (r_bin o_sub (r_item gi_ok (r_loc C 4) (r_loc C 3)) r_int))) (b_one (s_if (t_cmp1 o_eq (r_loc C 2) r_int) (b_one (s_set C (r_loc C 4) (r_loc C 3) r_int)) (b_one (s_if (t_cmp1 o_eq (r_loc C 2) r_int) (b_one (s_expr (r_meth GO (m_insert C) (r_loc C 4) (l_cons (r_loc C 3) (l_cons (r_bin o_add r_int (r_fn GO h__law_take C (by decide) (l_cons (r_loc C 0) (l_cons r_int l_nil)))) l_nil))) rfl)) (b_one (s_if (t_cmp1 o_eq (r_loc C 2) r_int) (b_one (s_asg C 4 (r_bin (o_mul C) (r_list (l_cons r_int l_nil)) (r_call GO (r_blt GO C (v:=.builtin "len") (NB _ (by decide)) rfl) (.blt _) len_ok (l_cons (r_loc C 4) l_nil))))) (b_one (s_if (t_cmp1 o_eq (r_loc C 2) r_int) (b_one (s_asg C 4 (r_bin o_add (r_from (r_loc C 4) (r_loc C 3)) (r_upto (r_loc C 4) (r_loc C 3))))) (b_one (s_if (t_cmp1 o_eq (r_loc C 2) r_int) (b_one (s_set C (r_loc C 4) (r_loc C 3) r_int)) (b_cons (s_set C (r_loc C 4) (r_loc C 3) (r_bin o_add (r_item gi_ok (r_loc C 4) (r_loc C 3)) r_int))
      (b_one (s_expr (r_meth GO (m_insert C) (r_loc C 4) (l_cons r_int (l_cons (r_item gi_ok (r_loc C 4) (r_loc C 3)) l_nil))) rfl))))))))))))))))
      (b_one (s_ret (r_loc C 4))))))
  rintro s args Q X H hb ⟨D,a,B,ns,h1,haD,h2,hr,l1,l2,h4,h5,h6⟩
  refine xA2_2 (map2 h1) ?_;intro u v hT1;subst hT1;intro e1 e2
  refine (xI1_2 [u,v] rfl (.of_eq (by rfl)) ?_)
  show fnW _ 3 [er u,er v] Q X H
  rw [e1,e2]
  have aD:a ∉ [D]:=by simpa using haD
  refine ⟨D,8,B,rfl,by decide,by decide,h4,by exact oA118 h5,fun way H1 hw b1 x1=>?_⟩
  have a1:=x1 _ _ aD h2
  have lm:(ns.map V.int).length = ns.length:=List.length_map _
  refine onList_of a1 ⟨by rw [lm];exact oA112 l2,⟨ D,ns.length,B + 1,by show [V.ref D,V.int ((ns.map V.int).length:Nat)] = _;rw [lm],by exact oA74 l1,by lia,b1,by lia,fun spot H2 hsp b2 x2=>?_⟩⟩
  have a2:=x2 _ _ aD a1
  refine onList_of a2 ⟨by rw [lm];exact oA112 l2,fun E hE=>⟨Nat.le_of_ble_eq_true rfl,fun T hT=>onTup_of (upd_self _ _ _) ⟨rfl,?_⟩⟩⟩
  generalize hH3:upd (upd H2 E (.list (ns.map V.int))) T (.tup [.int way,.int spot,.ref E]) = H3
  have E3:Ext H2 H3:=by rw [<- hH3];exact (Ext.new hE).trans (Ext.new hT)
  have e3:H3 E = some (.list (ns.map V.int)):=by rw [<- hH3];exact alloc_keep hT (upd_self _ _ _)
  have x3:ExtB [D] H H3:=(x1.trans x2).trans (.of E3)
  have b3:=b2.keep E3
  have hED:=ne_box b2 hE
  have hE0:H E = none:=none_keepB (x1.trans x2) hED hE
  have DE:D ≠ E:=fun q=>hED (by rw [q];exact .head _)
  clear hH3 hT hE
  refine xA1_0 (⟨_,List.getElem?_eq_getElem hsp⟩:∃ x,ns[spot]? = some x) ?_;intro x hx
  have hx':=hr x (List.mem_of_getElem? hx)
  have hmx:(ns.map V.int)[spot]? = some (.int x):=by rw [List.getElem?_map,hx];rfl
  have bx:∀ {H':MH} {m:MO} {B':Nat},boxAt H' D B' -> boxAt (upd H' E m) D B':=fun {H'} {m} {B'} q=>by
    refine xA3_2 q ?_;(try clear q);intro g mm t k1 k2 k3
    exact (xI3_2 g mm t (by rw [upd_ne _ _ DE];exact k1) k2 k3)
  have ex:∀ {H':MH} {m:MO},ExtB [D] H H' -> ExtB [D] H (upd H' E m):=fun {H'} {m} q b mo hbD e=>by
    rw [upd_ne _ _ (ne_of_none e hE0)];exact q b mo hbD e
  have setOk:∀ v,-1 <= v /\ v <= 12 -> rowOk (ns.set spot v):=fun v hv=>⟨by rw [List.length_set];exact oA75 l1,by rw [List.length_set];exact oA113 l2,fun z hz=>by
    rcases List.mem_or_eq_of_mem_set hz with q | rfl
    · have:=hr z q;exact oA26 this
    · exact hv⟩
  have fin:∀ v,-1 <= v /\ v <= 12 -> Q (.ref E) (upd H3 E (.list ((ns.map V.int).set spot (.int v)))):=fun v hv=>h6 E _ (ns.set spot v) hE0 (by rw [upd_self,List.map_set]) (setOk v hv) (bx (b3.mono (by exact oA84))) (ex x3)
  have hmx':(ns.map V.int)[((spot:Nat):Int).toNat]? = some (.int x):=by rw [Int.toNat_natCast];exact hmx
  have ib:(0:Int) <= spot /\ (spot:Int) < 2 ^ 60:=⟨by exact oA63,by lia⟩
  have il:(0:Int) <= spot /\ (spot:Int) < ((ns.map V.int).length:Int) /\ (ns.map V.int).length <= 100000:=by rw [lm];exact (xI0_2 (by exact oA63) (by exact oA197 hsp) (by exact oA112 l2))
  have l5:(ns.map V.int).length <= 100000:=il.2.2
  refine ⟨fun zz=>onLD_ofL e3 ⟨ib,(xI1_1 _ hmx' (onLD_ofL e3 ⟨il,fin _ (by exact oA25 hx')⟩))⟩,fun zz=>⟨fun zz=>onLD_ofL e3 ⟨ib,(xI1_1 _ hmx' (onLD_ofL e3 ⟨il,fin _ (by lia)⟩))⟩,fun zz=>⟨fun zz=>onLD_ofL e3 ⟨il,fin _ (by lia)⟩,fun zz=>⟨fun zz=>?_,fun zz=>⟨fun zz=>⟨by decide,fun Z hZ=>?_⟩,fun zz=>⟨fun zz=>?_,fun zz=>⟨fun zz=>onLD_ofL e3 ⟨il,fin _ (by lia)⟩,fun zz=>?_⟩⟩⟩⟩⟩⟩⟩
  · refine ⟨(xI2_1 E _ rfl e3),⟨ D,11,B + 2,rfl,by decide,by decide,b3,by lia,fun d H4 hd b4 x4=>?_⟩⟩
    have e4:=x4 _ _ hED e3
    refine onList_of e4 (xI0_2 (xI0_2 (by exact oA63) (by rw [lm];lia) l5) rfl ?_)
    have hmi:List.take spot (ns.map V.int) ++ V.int (1 + (d:Int)) :: List.drop spot (ns.map V.int) = (ns.take spot ++ (1 + (d:Int)) :: ns.drop spot).map V.int:=by
      rw [List.map_append,List.map_cons,List.map_take,List.map_drop]
    rw [Int.toNat_natCast,hmi]
    refine h6 E _ _ hE0 (upd_self _ _ _) (xI0_2 ?_ ?_ (fun z hz=>?_)) (bx b4) (ex (x3.trans x4))
    · rw [List.length_append,List.length_cons,List.length_take,List.length_drop];exact oA161
    · rw [List.length_append,List.length_cons,List.length_take,List.length_drop];lia
    · rcases List.mem_append.mp hz with q | q
      · have:=hr z (List.mem_of_mem_take q);exact oA26 this
      · rcases List.mem_cons.mp q with rfl | q
        · lia
        · have:=hr z (List.mem_of_mem_drop q);exact oA26 this
  · refine onList_of (alloc_keep hZ e3) ⟨l5,onList_of (upd_self _ _ _) ⟨⟨by exact oA63,by rw [lm];lia⟩,fun F hF=>?_⟩⟩
    have hF0:H F = none:=none_keepB x3 (fun q=>by
      rw [List.mem_singleton] at q
      subst q
      refine xA3_1 b3 ?_;(try clear b3);intro g m t k1 _
      rw [alloc_keep hZ k1] at hF;cases hF) (none_keep (Ext.new hZ) hF)
    refine h6 F _ (List.replicate ns.length 0) hF0 (by rw [upd_self,lm,Int.toNat_natCast,List.map_replicate]) (xI0_2 (by rw [List.length_replicate];exact oA75 l1) (by rw [List.length_replicate];exact oA113 l2) (fun z hz=>?_)) ?_ ?_
    · have:=List.eq_of_mem_replicate hz;lia
    · exact ((b3.keep (Ext.new hZ)).keep (Ext.new hF)).mono (by exact oA84)
    · exact (x3.trans (.of (Ext.new hZ))).trans (.of (Ext.new hF))
  · refine ⟨by exact oA63,onList_of e3 ⟨l5,fun Z hZ=>⟨by exact oA63,onList_of (alloc_keep hZ e3) ⟨l5,fun Y hY=>onList_of (alloc_keep hY (upd_self _ _ _)) (onList_of (upd_self _ _ _) ⟨?_,fun F hF=>?_⟩)⟩⟩⟩⟩
    · rw [List.length_drop,List.length_take,lm];exact oA233 l2
    have E5:=(Ext.new (m:=.list (List.drop spot (ns.map V.int))) hZ).trans (Ext.new (m:=.list (List.take spot (ns.map V.int))) hY)
    have hF0:H F = none:=none_keepB x3 (fun q=>by
      rw [List.mem_singleton] at q
      subst q
      refine xA3_1 b3 ?_;(try clear b3);intro g m t k1 _
      have hF':=E5 _ _ k1
      cases hF'.symm.trans hF) (none_keep E5 hF)
    refine h6 F _ (ns.drop spot ++ ns.take spot) hF0 (by rw [List.map_append,List.map_drop,List.map_take];exact upd_self _ _ _) (xI0_2 ?_ ?_ (fun z hz=>?_)) ?_ ?_
    · rw [List.length_append,List.length_drop,List.length_take];lia
    · rw [List.length_append,List.length_drop,List.length_take];exact oA234 l2
    · rcases List.mem_append.mp hz with q | q
      · have:=hr z (List.mem_of_mem_drop q);exact oA26 this
      · have:=hr z (List.mem_of_mem_take q);exact oA26 this
    · exact ((b3.keep E5).keep (Ext.new hF)).mono (by exact oA84)
    · exact (x3.trans (.of E5)).trans (.of (Ext.new hF))
  · have g:((ns.map V.int).set spot (.int (x + 1)))[spot]? = some (.int (x + 1)):=by
      rw [List.getElem?_set,if_pos rfl,if_pos (by rw [lm];exact hsp)]
    have ls:((ns.map V.int).set spot (.int (x + 1))).length = ns.length:=by rw [List.length_set,lm]
    refine onLD_ofL e3 ⟨ib,(xI1_1 _ hmx' (onLD_ofL e3 (xI0_2 il (xI2_1 E _ rfl (upd_self _ _ _)) (onLD_ofL (upd_self _ _ _) ⟨ib,(xI1_1 _ g (onList_of (upd_self _ _ _) (xI0_2 (xI0_2 (by decide) ?_ ?_) rfl ?_)))⟩))))⟩
    · show (0:Int) <= (((ns.map V.int).set spot (.int (x + 1))).length:Int)
      exact oA63
    · show ((ns.map V.int).set spot (.int (x + 1))).length <= 100000
      exact oA236 l2 ls
    have hmi:List.take 0 ((ns.map V.int).set spot (.int (x + 1))) ++ V.int (x + 1) :: List.drop 0 ((ns.map V.int).set spot (.int (x + 1))) = ((x + 1) :: ns.set spot (x + 1)).map V.int:=by
      rw [List.map_cons,List.map_set];rfl
    refine h6 E _ ((x + 1) :: ns.set spot (x + 1)) hE0 (by rw [<- hmi];exact upd_self _ _ _) (xI0_2 (by rw [List.length_cons];exact oA68) (by rw [List.length_cons,List.length_set];lia) (fun z hz=>?_)) (bx (bx (b3.mono (by exact oA84)))) (ex (ex x3))
    rcases List.mem_cons.mp hz with rfl | q
    · exact oA25 hx'
    · exact (setOk (x + 1) (by exact oA25 hx')).2.2 z q
end
section
variable {G:Gl} {c:Cx} {n:Nat}
inductive wholeC (args:List V) (Q:QV) (X:XP) (H:MH):Prop
  | mk (a) (ns : List Int) (o1 : args = [.ref a]) (o2 : H a = some (.list (ns.map .int))) (o3 : rowOk ns) (o4 : ∀ (b : Bool) H',(b = true ↔ whole ns) -> Ext H H' -> Q (.bool b) H')
theorem whole' (FX:Facts G):Fn G "_law_whole" 2 wholeC:=FX.lw_whole.fn fun fa F=>by
  refine xA5_0 F ?_;(try clear F);intro doc pm an cdv ct F
  have GO:=FX.go
  have NB:=FX.nb
  refine fn_plain (wb:=_) (names:=["row"]) (k:=1) (m:=0) (n:=1) GO F (by decide +kernel) (by decide) rfl (by decide +kernel) ?_ (fun L st C=>(b_cons (s_if (t_bool (t_or1 (t_cmp1 o_lt (r_call GO (r_blt GO C (v:=.builtin "min") (NB _ (by decide)) rfl) (.blt _) (min_ok C) (l_cons (r_loc C 0) l_nil)) r_int) (t_or1 (t_cmp1 o_gt (r_call GO (r_blt GO C (v:=.builtin "max") (NB _ (by decide)) rfl) (.blt _) (max_ok C) (l_cons (r_loc C 0) l_nil)) r_int) t_or0))) (b_one (s_ret r_bool)) b_nil)
      (b_one (s_ret (r_cmp1 o_eq (r_call GO (r_blt GO C (v:=.builtin "sum") (NB _ (by decide)) rfl) (.blt _) (sum_ok C) (l_cons (r_comp C (own:=["length"]) (fr:=[]) kind_list (it_list (r_loc C 0)) (fun zz C'=>(xI0_2 (k_list C' (a_loc C' 0)) (ct_one (t_cmp1 o_gt (r_loc C' 0) r_int)) (r_bin o_pow r_int (r_bin o_sub r_int (r_loc C' 0))))) ⟨by decide,by decide,(fun p hp=>nomatch hp),kn_free (by rfl),by decide +kernel,rfl⟩) l_nil)) (r_bin o_pow r_int r_int))))))
  rintro s args Q X H hb ⟨a,ns,h1,h2,hr,h4⟩
  refine xA1_1 (map1 h1) ?_;intro u hT1;subst hT1;intro e1
  refine (xI1_2 [u] rfl (.of_eq (by rfl)) ?_)
  show fnW _ 0 [er u] Q X H
  rw [e1]
  refine xA0_2 hr ?_;(try clear hr);intro hl1 hl2 hlx
  refine (xI1_2 ns h2 (by exact oA69 hl1) (fun m hm hmn=>⟨fun q=>h4 false H ⟨(fun z=>nomatch z),fun w=>?_⟩ Ext.rfl,fun q=>(xI1_2 ns h2 (by exact oA69 hl1) (fun M hM hMx=>⟨fun q2=>h4 false H ⟨(fun z=>nomatch z),fun w=>?_⟩ Ext.rfl,fun q2=>?_⟩))⟩))
  · have:=w.1 m hm;lia
  · have:=w.1 M hM;lia
  have hin:inRange ns:=fun x hx=>by have:=hmn x hx;have:=hMx x hx;lia
  refine onList_of h2 ⟨by rw [List.length_map];exact oA115 hl2,compW_inv (fun xs acc ls HH=>HH = H /\ ∃ (rest ps:List Int),xs = rest.map .int /\ (∀ x ∈ rest,0 <= x /\ x <= 11) /\ acc = ps.map V.int /\ ls.length = 1 /\ ps.sum + (psum 11 rest:Nat) = (psum 11 ns:Nat)) ?_ ?_ ?_ _ _ _ _ ⟨rfl,(xI2_4 ns [] rfl hin rfl rfl (by simp))⟩⟩
  · intro xs acc ls HH hT1;refine xA0_1 hT1 ?_;(try clear hT1);intro hT2;subst hT2;intro _
    exact h2
  · intro acc ls HH hT1;refine xA0_1 hT1 ?_;(try clear hT1);intro hT2;subst hT2;intro hT3;refine xA2_4 hT3 ?_;(try clear hT3);intro rest ps f1 f2 hT4;subst hT4;intro f3 f4
    obtain rfl:=List.map_eq_nil_iff.mp f1.symm
    have e1:((2:Int) ^ Int.toNat 11) = 2048:=by decide
    have e2:ps.sum = (psum 11 ns:Nat):=by simpa [psum] using f4
    have w11:=whole_11 hin
    refine fun D hD=>(xI1_3 ps (upd_self _ _ _) (xI0_2 ⟨by decide,by decide⟩ (by decide) (by decide)) (fun q=>h4 true _ ⟨fun zz=>w11.mpr ?_,fun zz=>rfl⟩ (Ext.new hD)) (fun q=>h4 false _ ⟨(fun z=>nomatch z),fun w=>(q ?_).elim⟩ (Ext.new hD)))
    · rw [e1,e2] at q;exact oA51 q
    · rw [e1,e2,w11.mp w];rfl
  · intro v xs acc ls HH K hT1 hK;refine xA0_1 hT1 ?_;(try clear hT1);intro hT2;subst hT2;intro hT3;refine xA2_4 hT3 ?_;(try clear hT3);intro rest ps f1 f2 hT4;subst hT4;intro f3 f4
    cases rest with
    | nil => cases f1
    | cons k rest =>
    cases f1
    refine xA1_0 (?_:∃ l0,ls = [l0]) ?_
    · match ls,f3 with
      | [l0],_ => exact ⟨l0,rfl⟩
    intro l0 hT1;subst hT1
    have hk:=f2 k (.head _)
    refine ⟨fun q=>⟨(xI0_2 ⟨by decide,by decide⟩ (by lia) (by lia)),hK _ _ _ ⟨rfl,(xI2_4 rest (ps ++ [2 ^ (11 - k).toNat]) rfl (fun x hx=>f2 x (.tail _ hx)) (by simp) rfl ?_)⟩⟩,fun q=>hK _ _ _ ⟨rfl,(xI2_4 rest ps rfl (fun x hx=>f2 x (.tail _ hx)) rfl rfl ?_)⟩⟩
    · rw [List.sum_append,List.sum_singleton,<- f4]
      have e:psum 11 (k :: rest) = 2 ^ (11 - k.toNat) + psum 11 rest:=by
        show (if 0 < k then 2 ^ (11 - k.toNat) else 0) + psum 11 rest = _
        rw [if_pos q]
      have e2:(11 - k).toNat = 11 - k.toNat:=by lia
      rw [e,e2];simp;exact oA136
    · rw [<- f4]
      have e:psum 11 (k :: rest) = psum 11 rest:=by
        show (if 0 < k then 2 ^ (11 - k.toNat) else 0) + psum 11 rest = _
        rw [if_neg q];lia
      rw [e]
end
section
variable {G:Gl} {c:Cx} {n:Nat}
noncomputable abbrev letsH:Addr -> WR:=hCons excs NN.BT (fun zz Q H=>Q (.bool false) H) (hCons excs NN.BC (fun zz Q H=>Q (.bool false) H) hEnd)
theorem r_letsF (FX:Facts G) (CO:CxOk G c) {cc:Addr} {lparams:Arguments} {lbody:Expr} {lscope:Scope} {lpos:Pos} {fr:List (Str × Nat)} (hcode:c.env.code = .ref cc) (CH:CodeHd G.h₀ cc G.P) (hdef:defaultsOf lparams c.env = ([],[])) (hqual:c.env.qual = ("_law_codes_right" : Str) ++ ".<locals>.") (hlam:(lpos,lamQ) ∈ G.lams)
    (hfree:∀ p ∈ lscope.names,p.2 = .free -> ∃ i,(p.1,i) ∈ fr) {wb:WE} (lcell:∀ x ∈ lscope.names,x.2 ≠ .cell) (hnd:(fr.map (·.1)).Nodup) (hnol:∀ p ∈ fr,lscope.names.lookup p.1 ≠ some .local)
    (hfr:∀ p ∈ fr,c.names[p.2]? = some p.1 /\ c.env.kindOf p.1 ≠ some .local /\ (p.1,NameKind.free) ∈ lscope.names)
    (lbind:∀ q cl pm cv ctv,bindArgs (kla_fn "<lambda>" q lparams lbody lscope cl pm cv ctv) ⟨[],[]⟩ = pure [])
    (hb:∀ f cv L st,CxOk G (cxL c lscope (c.env.qual ++ "<lambda>") (clOf c.env lscope.names []) f cv (fr.map (·.1)) L st) -> SE G (cxL c lscope (c.env.qual ++ "<lambda>") (clOf c.env lscope.names []) f cv (fr.map (·.1)) L st) n lbody wb)
    {np pos:Pos} (hk:c.env.kindOf "_law_lets" = some .globalImplicit:=by rfl) (lco:lscope.isCoroutine = false:=by rfl) (lgen:lscope.isGenerator = false:=by rfl) (lkind:lscope.kind = .function:=by rfl) :
    SE G c (n + 2) (.Call (.Name "_law_lets" np) [.Lambda lparams lbody lscope lpos] [] pos) (wLets fr wb letsH):=by
  refine xA1_2 FX.lw_lets ?_;intro fa hm hkp hT1;refine xA5_0 hT1 ?_;(try clear hT1);intro doc pm an cdv ct F
  have hq:c.env.qual ++ "<lambda>" = lamQ:=by rw [hqual];rfl
  rw [<- hq] at hlam
  refine r_lets FX.go CO F hkp (by decide +kernel) (by decide +kernel) (fun s v=>.of_eq (by rfl)) (by rfl) (fun L st C=>h_cons FX.go C FX.exc FX.in_BadTable (List.nodup_cons.mp FX.nd).1 FX.v_BadTable q_bool (h_cons FX.go C FX.exc FX.in_BadCode (List.nodup_cons.mp FX.nd).1 FX.v_BadCode q_bool h_end)) hcode CH hdef hlam
    (fun p hp zz zz=>(FX.lams p hp).trans hq.symm) hfree lcell hnd hnol hfr lbind hb (fun zz zz=>rfl) (r_glob FX.go CO hm hk) (by rfl) (by rfl) (by rfl) lco lgen lkind
noncomputable abbrev htW:List V -> WV:=htC
noncomputable abbrev prW:List V -> WV:=prC
theorem br_not {b:Bool} {A B:Prop} (h1:b = false -> A) (h2:b = true -> B):br (!b) A B:=by
  cases b
  · exact h1 rfl
  · exact h2 rfl
theorem cnt_rev (ns:List Int) (l:Nat):cnt ns.reverse l = cnt ns l:=by unfold cnt;exact List.count_reverse
theorem u_rev (ns:List Int):∀ l,u ns.reverse l = u ns l
  | 0 => rfl
  | l + 1 => by show 2 * u ns.reverse l + cnt ns.reverse (l + 1) = 2 * u ns l + cnt ns (l + 1);rw [u_rev ns l,cnt_rev]
theorem whole_rev (ns:List Int):whole ns.reverse ↔ whole ns:=by
  unfold whole inRange
  rw [u_rev]
  simp
theorem row_small {ns:List Int} (h:rowOk ns):∀ x ∈ ns,small x:=fun x hx=>by have:=h.2.2 x hx;exact ⟨by lia,by omega⟩
theorem lets1 (FX:Facts G) {a:Addr} {ns:List Int} {b:Bool} {v2 v3 v4 v5:V} {H:MH} {Qb:QB} {X:XP} (h:H a = some (.list (ns.map .int))) (hr:rowOk ns) (hb:b = true ↔ whole ns) (k:∀ H',Ext H H' -> Qb false H') :
    tBin wNe (wLets [("row",0)] (wCall htW (lCons (wLoc 0) lNil)) letsH) (wLoc 1) [.ref a,.bool b,v2,v3,v4,v5] Qb X H:=by
  have hnd:=FX.nd
  refine fun f=>⟨a,ns,rfl,h,by have:=hr.2.1;exact oA116 this,row_small hr,fun w x H' zz zz E=>?_,fun w H' E=>(xI0_2 FX.in_BadTable (fun zz=>?_) (fun q=>(q rfl).elim))⟩
  · have:b = true:=hb.mpr w
    subst this;exact k H' E
  · have:b = false:=by
      cases b with
      | false => rfl
      | true => exact (w (hb.mp rfl)).elim
    subst this
    exact k H' E
theorem lets2 (FX:Facts G) {a:Addr} {ns:List Int} {b:Bool} {v2 v3 v4 v5:V} {H:MH} {Qb:QB} {X:XP} (h:H a = some (.list (ns.map .int))) (hr:rowOk ns) (hb:b = true ↔ whole ns) (k:∀ H',Ext H H' -> Qb false H') :
    tBin wNe (wLets [("row",0)] (wCall prW (lCons (wRev (wLoc 0) (wUn wNeg (wInt 1))) (lCons (wInt 11) lNil))) letsH) (wLoc 1) [.ref a,.bool b,v2,v3,v4,v5] Qb X H:=by
  have hnd:NN.BC ≠ NN.BT:=fun q=>by
    have h1:=FX.nd
    unfold excs at h1
    rw [q] at h1
    simp at h1
  have hr':rowOk ns.reverse:=(xI0_2 (by rw [List.length_reverse];exact hr.1) (by rw [List.length_reverse];exact hr.2.1) (fun x hx=>hr.2.2 x (List.mem_reverse.mp hx)))
  refine fun f=>⟨rfl,onList_of h ⟨by have:=hr.2.1;rw [List.length_map];exact oA115 this,fun D hD=>⟨D,ns.reverse,rfl,by rw [upd_self,List.map_reverse],by have:=hr'.2.1;exact oA116 this,row_small hr',fun w x H' zz zz E=>?_,fun w H' E=>(xI0_2 FX.in_BadCode (fun q=>(hnd q).elim) (fun zz=>(xI0_2 FX.in_BadCode (fun zz=>?_) (fun q=>(q rfl).elim))))⟩⟩⟩
  · have:b = true:=hb.mpr ((whole_rev ns).mp w)
    subst this;exact k H' ((Ext.new hD).trans E)
  · have:b = false:=by
      cases b with
      | false => rfl
      | true => exact (w ((whole_rev ns).mpr (hb.mp rfl))).elim
    subst this
    exact k H' ((Ext.new hD).trans E)
noncomputable def dueP (ns:List Int) (ts:List Addr) (H:MH):Prop:=∀ i t d:Nat,ts[i]? = some t -> ns[i]? = some (d:Int) -> H t = some (.tup [.int (codeV ns i d:Nat),.int d])
theorem due_eq {ns:List Int} (w:whole ns) {s d:Nat} (h:ns[s]? = some (d:Int)):(2:Int) ^ d - 1 - canV ns.reverse (ns.length - 1 - s) d = (codeV ns s d:Nat):=by
  have hs:=(List.getElem?_eq_some_iff.mp h).1
  have hm:=w.1 _ (List.mem_of_getElem? h)
  unfold canV codeV
  by_cases q:d = 0
  · subst q;rfl
  · rw [if_neg q,if_neg q,u_rev]
    have e1:ns.reverse.take (ns.length - 1 - s) = (ns.drop (s + 1)).reverse:=by
      rw [List.take_reverse];congr 2;exact oA207 hs
    rw [e1,List.count_reverse]
    have e2:cnt ns d = (ns.take s).count (d:Int) + (1 + (ns.drop (s + 1)).count (d:Int)):=by
      have:ns = ns.take s ++ (d:Int) :: ns.drop (s + 1):=by
        conv=>lhs;rw [<- List.take_append_drop s ns]
        congr 1
        rw [List.drop_eq_getElem_cons hs]
        congr 1
        rw [List.getElem?_eq_getElem hs] at h;injection h
      unfold cnt
      conv=>lhs;rw [this]
      rw [List.count_append,List.count_cons_self];exact oA169
    have l1:=whole_le w (l:=d) (by lia)
    have e3:u ns d = 2 * u ns (d - 1) + cnt ns d:=by
      refine xA1_0 (⟨d - 1,by exact oA135 q⟩:∃ k,d = k + 1) ?_;intro k hT1;subst hT1
      rfl
    have e4:((2:Int) ^ d) = ((2 ^ d:Nat):Int):=by simp
    unfold st
    rw [e4]
    exact oA366 e2 l1 e3
inductive codesrightC (args:List V) (Q:QV) (X:XP) (H:MH):Prop
  | mk (a) (ns : List Int) (o1 : args = [.ref a]) (o2 : H a = some (.list (ns.map .int))) (o3 : rowOk ns) (o4 : ∀ H',Ext H H' -> Q (.bool true) H')
set_option maxHeartbeats 600000 in
theorem codesright' (FX:Facts G):Fn G "_law_codes_right" 13 codesrightC:=by
  refine xA6_0 FX.codesR ?_;intro fa cc doc pm an ct hT1;refine xA0_3 hT1 ?_;(try clear hT1);intro hmg hkp F CH
  refine (xI1_2 fa hmg hkp ?_)
  have GO:=FX.go
  have NB:=FX.nb
  have h__law_whole:=whole' FX
  have h_HuffTable:=ht' FX
  have h_PrefixReader:=pr' FX
  have h_canonical:=canon' FX
  have h_HT_code:=htcode' FX
  refine fn_cells (wb:=_) (names:=["row", "whole", "last", "table", "codes", "due"]) (k:=1) (m:=5) (n:=12) GO F (by decide +kernel) rfl (by decide +kernel) (by decide +kernel) ?_ (fun L st C=>(b_cons (s_asgTc (a_tup (.cons (a_loc C 1) (.cons (a_cell C 2) .nil)) (by intro _;rfl) (aLocs_reach [1,2])) (r_tup (l_cons (r_fn GO h__law_whole C (by decide) (l_cons (r_cell C 0) l_nil)) (l_cons (r_bin o_sub (r_call GO (r_blt GO C (v:=.builtin "len") (NB _ (by decide)) rfl) (.blt _) len_ok (l_cons (r_cell C 0) l_nil)) r_int) l_nil))))
      (b_cons (s_if (t_bool (t_or1 (t_cmp1 o_ne (r_letsF FX C (fr:=[("row",0)]) rfl CH rfl rfl FX.lam1 (kn_free (by rfl)) (by decide +kernel) (by decide) (by decide +kernel) (fun p hp=>by rcases List.mem_cons.mp hp with rfl | hp;exact (xI0_2 rfl (fun q=>by cases (show some NameKind.cell = some NameKind.local from q)) (by decide +kernel));cases hp) (fun zz zz zz zz zz=>rfl) (fun zz zz zz zz Cl=>(r_fn GO h_HuffTable Cl (by decide) (l_cons (r_free Cl 0) l_nil)))) (r_loc C 1)) (t_or1 (t_cmp1 o_ne (r_letsF FX C (fr:=[("row",0)]) rfl CH rfl rfl FX.lam2 (kn_free (by rfl)) (by decide +kernel) (by decide) (by decide +kernel) (fun p hp=>by rcases List.mem_cons.mp hp with rfl | hp;exact (xI0_2 rfl (fun q=>by cases (show some NameKind.cell = some NameKind.local from q)) (by decide +kernel));cases hp) (fun zz zz zz zz zz=>rfl) (fun zz zz zz zz Cl=>(r_fn GO h_PrefixReader Cl (by decide) (l_cons (r_rev (r_free Cl 0) (r_un o_neg r_int)) (l_cons r_int l_nil))))) (r_loc C 1)) t_or0))) (b_one (s_ret r_bool)) b_nil)
      (b_cons (s_if (t_not (t_val (r_loc C 1))) (b_one (s_ret r_bool)) b_nil)
      (b_cons (s_asgTc (a_tup (.cons (a_cell C 3) (.cons (a_cell C 4) .nil)) (by intro _;rfl) (aLocs_reach [3,4])) (r_tup (l_cons (r_fn GO h_HuffTable C (by decide) (l_cons (r_cell C 0) l_nil)) (l_cons (r_fn GO h_canonical C (by decide) (l_cons (r_rev (r_cell C 0) (r_un o_neg r_int)) l_nil)) l_nil))))
      (b_cons (s_asgComp C (i:=5) (own:=["symbol", "length"]) (fr:=[("codes",4),("last",2)]) kind_enum (it_enum GO (r_blt GO C (v:=.type "enumerate") (NB _ (by decide)) rfl) (r_cell C 0)) (fun zz C'=>(xI0_2 (k_enum C' (a_loc C' 0) (a_loc C' 1)) ct_none (r_tup (l_cons (r_bin o_sub (r_bin o_sub (r_bin o_pow r_int (r_loc C' 1)) r_int) (r_item gi_ok (r_cell C' 2) (r_bin o_sub (r_cell C' 3) (r_loc C' 0)))) (l_cons (r_loc C' 1) l_nil))))) ⟨by decide,by decide,(fun p hp=>by rcases List.mem_cons.mp hp with rfl | hp;exact (xI0_3 rfl (fun q=>by cases (show some NameKind.cell = some NameKind.local from q)) (by decide +kernel) (by decide +kernel));rcases List.mem_cons.mp hp with rfl | hp;exact (xI0_3 rfl (fun q=>by cases (show some NameKind.cell = some NameKind.local from q)) (by decide +kernel) (by decide +kernel));cases hp),kn_free (by rfl),by decide +kernel,rfl⟩)
      (b_one (s_ret (r_cmp1 o_eq (r_comp C (own:=["symbol"]) (fr:=[("table",3)]) kind_range (it_range1 GO (r_blt GO C (v:=.type "range") (NB _ (by decide)) rfl) (l_cons (r_call GO (r_blt GO C (v:=.builtin "len") (NB _ (by decide)) rfl) (.blt _) len_ok (l_cons (r_cell C 0) l_nil)) l_nil)) (fun zz C'=>(xI0_2 (k_range C' (a_loc C' 0)) ct_none (r_meth GO (own_m GO C' h_HT_code (by decide)) (r_cell C' 1) (l_cons (r_loc C' 0) l_nil)))) ⟨by decide,by decide,(fun p hp=>by rcases List.mem_cons.mp hp with rfl | hp;exact (xI0_3 rfl (fun q=>by cases (show some NameKind.cell = some NameKind.local from q)) (by decide +kernel) (by decide +kernel));cases hp),kn_free (by rfl),by decide +kernel,rfl⟩) (r_loc C 5))))))))))
  rintro args Q X H ⟨a,ns,h1,h2,hr,h4⟩
  refine xA1_1 (map1 h1) ?_;intro u hT1;subst hT1;intro e1
  refine (xI1_2 [u] rfl (by rfl) ?_)
  show fnW _ 5 [er u] Q X H
  rw [e1]
  have lm:(ns.map V.int).length = ns.length:=List.length_map _
  have hl:=hr.2.1
  refine ⟨a,ns,rfl,h2,hr,fun b H1 hb E1=>onList_of (E1 _ _ h2) (xI0_2 (by rw [lm];exact oA115 hl) (Nat.le_of_ble_eq_true rfl) (fun D hD=>onTup_of (upd_self _ _ _) ?_))⟩
  rw [lm]
  have E2:=E1.trans (Ext.new (m:=.tup [.bool b,.int ((ns.length:Int) - 1)]) hD)
  refine lets1 FX (E2 _ _ h2) hr hb fun H3 E3=>?_
  have E3':=E2.trans E3
  refine lets2 FX (E3' _ _ h2) hr hb fun H4 E4=>?_
  have E4':=E3'.trans E4
  refine br_not (fun zz=>h4 _ E4') fun hbt=>?_
  have w:=hb.mp hbt
  refine ⟨a,ns,rfl,E4' _ _ h2,by exact oA116 hl,row_small hr,fun zz x H5 zz hto E5=>?_,fun nw=>(nw w).elim⟩
  have E5':=E4'.trans E5
  have ht:=hto.at
  refine ⟨rfl,onList_of (E5' _ _ h2) ⟨by rw [lm];exact oA115 hl,fun Dr hDr=>⟨Dr,ns.reverse,rfl,by rw [upd_self,List.map_reverse],(whole_rev ns).mpr w,by rw [List.length_reverse];exact oA116 hl,fun Dc H6 cs hDc hcs hlen hcan E6=>⟨Nat.le_of_ble_eq_true rfl,fun T hT=>onTup_of (upd_self _ _ _) ?_⟩⟩⟩⟩
  have E6':=(E5'.trans (Ext.new hDr)).trans E6
  generalize hH7:upd H6 T (.tup [.ref x,.ref Dc]) = H7
  have E67:Ext H6 H7:=by rw [<- hH7];exact Ext.new hT
  have E7:=E6'.trans E67
  have c7:=E67 _ _ hcs
  have t7:=(ht.keep (Ext.new hDr)).keep (E6.trans E67)
  refine onList_of (E7 _ _ h2) ?_
  rw [enum_eq]
  have drop_at:∀ k,k < ns.length -> ∃ d:Nat,ns[k]? = some (d:Int) /\ d <= 11 /\ ns.drop k = (d:Int) :: ns.drop (k + 1):=fun k hk=>by
    have hm:=w.1 ns[k] (List.getElem_mem hk)
    refine (xI1_2 ((ns[k]).toNat) ?_ (by exact oA29 hm) ?_)
    · rw [List.getElem?_eq_getElem hk,Int.toNat_of_nonneg hm.1]
    · rw [List.drop_eq_getElem_cons hk,Int.toNat_of_nonneg hm.1]
  refine ⟨by rw [enumL_len];exact oA115 hl,compW_inv (fun xs acc ls HH=>Ext H7 HH /\ ∃ (k:Nat) (ts:List Addr) (y0 y1:V),k <= ns.length /\ xs = enumL k (ns.drop k) /\ acc = ts.map .ref /\ ts.length = k /\ dueP ns ts HH /\ ls = [y0,y1,.ref Dc,.int ((ns.length:Int) - 1)]) ?_ ?_ ?_ _ _ _ _ ⟨Ext.rfl,(xI4_5 0 [] (.unb) (.unb) (Nat.zero_le _) rfl rfl rfl (fun i t d q=>by simp at q) rfl)⟩⟩
  · intro xs acc ls HH hT1;refine xA0_1 hT1 ?_;(try clear hT1);intro E _
    exact E _ _ (E7 _ _ h2)
  · intro acc ls HH hT1 Du hDu;refine xA0_1 hT1 ?_;(try clear hT1);intro E8 hT2;refine xA4_5 hT2 ?_;(try clear hT2);intro k ts y0 y1 k1 k2 hT3;subst hT3;intro k3 k4 hT4;subst hT4
    have hk:k = ns.length:=by
      have:=congrArg List.length k2
      rw [enumL_len,List.length_drop] at this
      simp at this;exact oA250 k1 this
    have E9:=E8.trans (Ext.new (m:=.list (ts.map V.ref)) hDu)
    have hn0:((ns.length:Int) - 0).toNat = ns.length:=by exact oA43
    refine onList_of (alloc_keep hDu (E8 _ _ (E7 _ _ h2))) ⟨by rw [lm];exact oA115 hl,iR_up (by rw [lm];lia) ?_⟩
    rw [lm,hn0]
    generalize hH9:upd HH Du (.list (ts.map V.ref)) = H9 at E9 ⊢
    have d9:H9 Du = some (.list (ts.map V.ref)):=by rw [<- hH9,upd_self]
    have k4':dueP ns ts H9:=fun i t d q1 q2=>by rw [<- hH9];exact alloc_keep hDu (k4 i t d q1 q2)
    refine ⟨by rw [rangeL_len];exact oA115 hl,compW_inv (fun xs acc ls HK=>Ext H9 HK /\ ∃ (j:Nat) (us:List Addr) (y0:V),j <= ns.length /\ xs = rangeL 1 (ns.length - j) (j:Int) /\ acc = us.map .ref /\ us.length = j /\ dueP ns us HK /\ ls = [y0,.ref x]) ?_ ?_ ?_ _ _ _ _ ⟨Ext.rfl,(xI3_5 0 [] (.unb) (Nat.zero_le _) rfl rfl rfl (fun i t d q=>by simp at q) rfl)⟩⟩
    · intros;trivial
    · intro acc ls HK hT1 Dv hDv;refine xA0_1 hT1 ?_;(try clear hT1);intro F hT2;refine xA3_5 hT2 ?_;(try clear hT2);intro j us y0 j1 j2 hT3;subst hT3;intro j3 j4 hT4;subst hT4
      have hj:j = ns.length:=by
        have:=congrArg List.length j2
        rw [rangeL_len] at this
        simp at this;exact oA250 j1 this
      refine onList_of (upd_self _ _ _) (onList_of (alloc_keep hDv (F _ _ d9)) ⟨⟨by rw [List.length_map,List.length_map,k3,hk,j3,hj],fun i p q hp hq=>?_⟩,h4 _ ((E7.trans E9).trans (F.trans (Ext.new hDv)))⟩)
      rw [List.getElem?_map] at hp hq
      refine xA1_1 (Option.map_eq_some_iff.mp hp) ?_;intro t ht1 hT1;subst hT1
      refine xA1_1 (Option.map_eq_some_iff.mp hq) ?_;intro t' ht2 hT1;subst hT1
      have hi:i < ns.length:=by have:=(List.getElem?_eq_some_iff.mp ht1).1;lia
      refine xA1_2 (drop_at i hi) ?_;intro d d1 _ _
      refine (xI1_2 _ (alloc_keep hDv (j4 i t d ht1 d1)) (alloc_keep hDv (F _ _ (k4' i t' d ht2 d1))) ?_)
      intro z hz
      rcases List.mem_cons.mp hz with rfl | hz
      · exact ⟨_,rfl⟩
      · rcases List.mem_cons.mp hz with rfl | hz
        · exact ⟨_,rfl⟩
        · cases hz
    · intro v xs acc ls HK K hT1 hK;refine xA0_1 hT1 ?_;(try clear hT1);intro F hT2;refine xA3_5 hT2 ?_;(try clear hT2);intro j us y0 j1 j2 hT3;subst hT3;intro j3 j4 hT4;subst hT4
      have hjl:j < ns.length:=by
        rcases Nat.lt_or_ge j ns.length with q | q
        · exact q
        · rw [show ns.length - j = 0 by exact oA266 q] at j2;cases j2
      rw [show ns.length - j = (ns.length - (j + 1)) + 1 by exact oA210 hjl] at j2
      cases j2
      refine xA1_2 (drop_at j hjl) ?_;intro d d1 _ _
      have tk:=(t7.keep E9).keep F
      refine xA7_2 (id tk) ?_;intro dx Ll Lg Lc tts mm kk q1 q2 q3
      refine ⟨(xI3_3 x dx _ rfl q1 q2 rfl),⟨ x,j,d,ns,rfl,tk,d1,fun t H' E' ht'=>hK _ _ _ ⟨F.trans E',(xI3_5 (j + 1) (us ++ [t]) (.int j) hjl (by congr 1) (by simp) (by simp [j3]) ?_ rfl)⟩⟩⟩
      intro i t2 d2 hi hd2
      by_cases z:i < j
      · rw [List.getElem?_append_left (by exact oA310 j3 z)] at hi
        exact E' _ _ (j4 i t2 d2 hi hd2)
      · have:i = j:=by
          have:=(List.getElem?_eq_some_iff.mp hi).1
          simp at this;exact oA313 j3 z this
        subst this
        rw [List.getElem?_append_right (by exact oA214 j3),j3,Nat.sub_self] at hi
        cases hi
        rw [d1] at hd2
        have:d = d2:=by injection hd2 with hd2;exact oA153 hd2
        subst this;exact ht'
  · intro v xs acc ls HH K hT1 hK;refine xA0_1 hT1 ?_;(try clear hT1);intro E8 hT2;refine xA4_5 hT2 ?_;(try clear hT2);intro k ts y0 y1 k1 k2 hT3;subst hT3;intro k3 k4 hT4;subst hT4
    have hkl:k < ns.length:=by
      rcases Nat.lt_or_ge k ns.length with q | q
      · exact q
      · rw [List.drop_eq_nil_of_le q] at k2;cases k2
    refine xA1_2 (drop_at k hkl) ?_;intro d d1 d11 d2
    rw [d2] at k2
    cases k2
    have hrev:ns.reverse[ns.length - 1 - k]? = some (d:Int):=by
      rw [List.getElem?_reverse (by exact oA209 hkl),<- d1];congr 1;exact oA208 hkl
    have hc:=hcan _ _ hrev
    have e1:((ns.length:Int) - 1 - k) = ((ns.length - 1 - k:Nat):Int):=by exact oA199 hkl
    refine ⟨(xI0_2 ⟨by decide,by decide⟩ (by exact oA63) (by lia)),onLD_ofL (E8 _ _ c7) ⟨⟨by lia,by lia⟩,(xI1_1 (.int (canV ns.reverse (ns.length - 1 - k) d)) (by rw [e1,Int.toNat_natCast];exact hc) ⟨ Nat.le_of_ble_eq_true rfl,?_⟩)⟩⟩
    refine fun D2 hD2=>hK _ _ _ ⟨E8.trans (Ext.new hD2),(xI4_5 (k + 1) (ts ++ [D2]) (.int k) (.int d) hkl rfl (by simp) (by simp [k3]) ?_ rfl)⟩
    intro i t2 d9 hi hd2
    by_cases z:i < k
    · rw [List.getElem?_append_left (by exact oA310 k3 z)] at hi
      exact alloc_keep hD2 (k4 i t2 d9 hi hd2)
    · have:i = k:=by
        have:=(List.getElem?_eq_some_iff.mp hi).1
        simp at this;exact oA313 k3 z this
      subst this
      rw [List.getElem?_append_right (by exact oA214 k3),k3,Nat.sub_self] at hi
      cases hi
      rw [d1] at hd2
      have:d = d9:=by injection hd2 with hd2;exact oA153 hd2
      subst this;rw [upd_self,<- due_eq w d1];rfl
end
theorem fdivN (a b:Nat):Int.fdiv (a:Int) (b:Int) = ((a / b:Nat):Int):=by
  rw [Int.fdiv_eq_ediv_of_nonneg _ (by exact oA63)];rfl
theorem fmodN (a b:Nat):Int.fmod (a:Int) (b:Int) = ((a % b:Nat):Int):=by
  rw [Int.fmod_eq_emod_of_nonneg _ (by exact oA63)];rfl
theorem pow2N (k:Nat):((2:Int) ^ k) = ((2 ^ k:Nat):Int):=by simp
noncomputable def bitAt (c l k:Nat):Nat:=c / 2 ^ (l - 1 - k) % 2
noncomputable def bitsOf (c l:Nat):List Nat:=(List.range l).map (bitAt c l)
noncomputable def cw (ns:List Int) (s:Nat):List Nat:=match ns[s]? with
  | some d => bitsOf (codeV ns s d.toNat) d.toNat
  | none => []
noncomputable def usedSym (ns:List Int) (s:Nat):Prop:=∃ d:Nat,ns[s]? = some (d:Int) /\ 0 < d
theorem natV_app (a b:List Nat):natV (a ++ b) = natV a ++ natV b:=by unfold natV;rw [List.map_append]
theorem natV_len (a:List Nat):(natV a).length = a.length:=by unfold natV;rw [List.length_map]
theorem used_mem:∀ {r:List Int} {k:Nat} {s:Int},s ∈ usedL r k -> ∃ i:Nat,s = ((k + i:Nat):Int) /\ ∃ d:Int,r[i]? = some d /\ 0 < d
  | x :: r,k,s,h => by
    rw [usedL] at h
    by_cases q:0 < x
    · rw [if_pos q] at h
      rcases List.mem_cons.mp h with rfl | h
      · exact (xI1_1 0 rfl (xI1_1 x rfl q))
      · refine xA1_1 (used_mem h) ?_;intro i h1 hT1;refine xA1_1 hT1 ?_;(try clear hT1);intro d h2 h3
        exact (xI1_1 (i + 1) (by rw [h1];congr 1;exact oA176) (xI1_1 d h2 h3))
    · rw [if_neg q] at h
      refine xA1_1 (used_mem h) ?_;intro i h1 hT1;refine xA1_1 hT1 ?_;(try clear hT1);intro d h2 h3
      exact (xI1_1 (i + 1) (by rw [h1];congr 1;exact oA176) (xI1_1 d h2 h3))
theorem used_len:∀ (r:List Int) (k:Nat),(usedL r k).length <= r.length
  | [],_ => Nat.le_refl _
  | x :: r,k => by
    rw [usedL]
    have:=used_len r (k + 1)
    split
    · simp only [List.length_cons];exact oA252 this
    · simp only [List.length_cons];exact oA256 this
theorem used_pos {ns:List Int} (w:whole ns):0 < (usedL ns 0).length:=by
  rcases Nat.eq_zero_or_pos (usedL ns 0).length with q | q
  · have hz:=used_nil ns 0 (fun x hx=>(w.1 x hx).1) (List.length_eq_zero_iff.mp q)
    have:cnt ns 0 = ns.length:=by
      unfold cnt;exact List.count_eq_length.mpr fun b hb=>(hz b hb).symm
    have:=cnt0_zero this
    rw [w.2] at this;cases this
  · exact q
theorem cw_len {ns:List Int} (w:whole ns) (s:Nat):(cw ns s).length <= 11:=by
  unfold cw
  split
  · rename_i d hd
    have:=w.1 d (List.mem_of_getElem? hd)
    unfold bitsOf;rw [List.length_map,List.length_range];exact oA29 this
  · exact Nat.zero_le _
theorem flat_len {ns:List Int} (w:whole ns):∀ syms:List Nat,(syms.flatMap (cw ns)).length <= 11 * syms.length
  | [] => Nat.zero_le _
  | s :: r => by
    rw [List.flatMap_cons,List.length_append,List.length_cons]
    have:=flat_len w r
    have:=cw_len w s
    lia
section
variable {G:Gl} {c:Cx} {n:Nat}
inductive laidC (args:List V) (Q:QV) (X:XP) (H:MH):Prop
  | mk (D a) (most B : Nat) (ns : List Int) (o1 : args = [.ref D,.ref a,.int most]) (o2 : a ≠ D) (o3 : H a = some (.list (ns.map .int))) (o4 : whole ns) (o5 : ns.length <= 15) (o6 : 0 < most) (o7 : most <= 4) (o8 : boxAt H D B) (o9 : B <= 200) (o10 : ∀ (T : Addr) (H' : MH) (Sy Bi : Addr) (syms extra : List Nat),H' T = some (.tup [.ref Sy,.ref Bi]) -> H' Sy = some (.list (natV syms)) -> H' Bi = some (.list (natV (syms.flatMap (cw ns) ++ extra))) -> (∀ s ∈ syms,usedSym ns s) -> syms.length <= 4 -> extra.length <= 8 -> (∀ x ∈ extra,x < 2) -> ExtB [D] H H' -> Q (.ref T) H')
set_option maxHeartbeats 600000 in
theorem laid' (FX:Facts G):Fn G "_law_laid" 9 laidC:=FX.lw_laid.fn fun fa F=>by
  refine xA5_0 F ?_;(try clear F);intro doc pm an cdv ct F
  have GO:=FX.go
  have NB:=FX.nb
  have h__law_take:=take' FX
  have h_HuffTable:=ht' FX
  have h_HT_code:=htcode' FX
  refine fn_cells (wb:=_) (names:=["box", "row", "most", "table", "used", "symbol", "length", "symbols", "bits", "turn", "code"]) (k:=3) (m:=8) (n:=8) GO F (by decide +kernel) rfl (by decide +kernel) (by decide +kernel) ?_ (fun L st C=>(b_cons (s_asgSw C (.cons (i:=3) rfl rfl (.cons (i:=4) rfl rfl .nil)) (r_tup (l_cons (r_fn GO h_HuffTable C (by decide) (l_cons (r_loc C 1) l_nil)) (l_cons (r_comp C (own:=["symbol", "length"]) (fr:=[]) kind_enum (it_enum GO (r_blt GO C (v:=.type "enumerate") (NB _ (by decide)) rfl) (r_loc C 1)) (fun zz C'=>(xI0_2 (k_enum C' (a_loc C' 0) (a_loc C' 1)) (ct_one (t_cmp1 o_gt (r_loc C' 1) r_int)) (r_loc C' 0))) ⟨by decide,by decide,(fun p hp=>nomatch hp),kn_free (by rfl),by decide +kernel,rfl⟩) l_nil))))
      (b_cons (s_asgSw C (.cons (i:=7) rfl rfl (.cons (i:=8) rfl rfl .nil)) (r_tup (l_cons (r_list l_nil) (l_cons (r_list l_nil) l_nil))))
      (b_cons (s_for C rfl (it_range1 GO (r_blt GO C (v:=.type "range") (NB _ (by decide)) rfl) (l_cons (r_bin o_add r_int (r_fn GO h__law_take C (by decide) (l_cons (r_cell C 0) (l_cons (r_loc C 2) l_nil)))) l_nil)) (k_range C (a_loc C 9)) (b_cons (s_asg C 5 (r_item gi_ok (r_loc C 4) (r_fn GO h__law_take C (by decide) (l_cons (r_cell C 0) (l_cons (r_call GO (r_blt GO C (v:=.builtin "len") (NB _ (by decide)) rfl) (.blt _) len_ok (l_cons (r_loc C 4) l_nil)) l_nil)))))
      (b_cons (s_asgT (a_tup (.cons (a_cell C 10) (.cons (a_cell C 6) .nil)) (by intro _;rfl) (aLocs_reach [10,6])) (r_meth GO (own_m GO C h_HT_code (by decide)) (r_loc C 3) (l_cons (r_loc C 5) l_nil)))
      (b_cons (s_expr (r_meth GO (m_append C) (r_loc C 7) (l_cons (r_loc C 5) l_nil)) rfl)
      (b_one (s_asg C 8 (r_bin o_add (r_loc C 8) (r_comp C (own:=["k"]) (fr:=[("code",10),("length",6)]) kind_range (it_range1 GO (r_blt GO C (v:=.type "range") (NB _ (by decide)) rfl) (l_cons (r_cell C 6) l_nil)) (fun zz C'=>(xI0_2 (k_range C' (a_loc C' 0)) ct_none (r_bin o_mod (r_bin o_fdiv (r_cell C' 1) (r_bin o_pow r_int (r_bin o_sub (r_bin o_sub (r_cell C' 2) r_int) (r_loc C' 0)))) r_int))) ⟨by decide,by decide,(fun p hp=>by rcases List.mem_cons.mp hp with rfl | hp;exact (xI0_3 rfl (fun q=>by cases (show some NameKind.cell = some NameKind.local from q)) (by decide +kernel) (by decide +kernel));rcases List.mem_cons.mp hp with rfl | hp;exact (xI0_3 rfl (fun q=>by cases (show some NameKind.cell = some NameKind.local from q)) (by decide +kernel) (by decide +kernel));cases hp),kn_free (by rfl),by decide +kernel,rfl⟩))))))))
      (b_one (s_ret (r_tup (l_cons (r_loc C 7) (l_cons (r_bin o_add (r_loc C 8) (r_comp C (own:=["k"]) (fr:=[("box",0)]) kind_range (it_range1 GO (r_blt GO C (v:=.type "range") (NB _ (by decide)) rfl) (l_cons (r_fn GO h__law_take C (by decide) (l_cons (r_cell C 0) (l_cons r_int l_nil))) l_nil)) (fun zz C'=>(xI0_2 (k_range C' (a_loc C' 0)) ct_none (r_fn GO h__law_take C' (by decide) (l_cons (r_cell C' 1) (l_cons r_int l_nil))))) ⟨by decide,by decide,(fun p hp=>by rcases List.mem_cons.mp hp with rfl | hp;exact (xI0_3 rfl (fun q=>by cases (show some NameKind.cell = some NameKind.local from q)) (by decide +kernel) (by decide +kernel));cases hp),kn_free (by rfl),by decide +kernel,rfl⟩)) l_nil)))))))))
  rintro args Q X H ⟨D,a,most,B,ns,h1,haD,h2,hw,hl,m1,m4,hb,hB,hq⟩
  refine xA3_3 (map3 h1) ?_;intro u1 u2 u3 hT1;subst hT1;intro e1 e2 e3
  refine (xI1_2 [u1,u2,u3] rfl (by rfl) ?_)
  show fnW _ 8 [er u1,er u2,er u3] Q X H
  rw [e1,e2,e3]
  have hsm:∀ k ∈ ns,small k:=fun k hk=>by have:=hw.1 k hk;exact ⟨by exact oA27 this,by exact oA28 this⟩
  refine ⟨a,ns,rfl,h2,by exact oA114 hl,hsm,fun zz x H1 zz ht E1=>?_,fun nw=>(nw hw).elim⟩
  refine onList_of (E1 _ _ h2) ?_
  rw [enum_eq]
  refine ⟨by rw [enumL_len];exact oA112 hl,compW_inv (fun xs acc ls HH=>HH = H1 /\ ∃ rest k,xs = enumL k rest /\ ∃ done:List Int,acc = done.map V.int /\ done ++ usedL rest k = usedL ns 0 /\ ls.length = 2) ?_ ?_ ?_ _ _ _ _ ⟨rfl,(xI2_1 ns 0 rfl (xI1_2 [] rfl rfl rfl))⟩⟩
  · intro xs acc ls HH hT1;refine xA0_1 hT1 ?_;(try clear hT1);intro hT2;subst hT2;intro _
    exact E1 _ _ h2
  · intro acc ls HH hT1 U hU;refine xA0_1 hT1 ?_;(try clear hT1);intro hT2;subst hT2;intro hT3;refine xA2_1 hT3 ?_;(try clear hT3);intro rest k e1 hT4;refine xA1_2 hT4 ?_;(try clear hT4);intro done hT5;subst hT5;intro e3 e4
    cases rest with
    | cons x r => cases e1
    | nil =>
    refine ⟨Nat.le_of_ble_eq_true rfl,fun T hT=>onTup_of (upd_self _ _ _) (xI0_2 rfl (Nat.le_of_ble_eq_true rfl) (fun S hS=>⟨Nat.le_of_ble_eq_true rfl,fun Bi hBi=>⟨Nat.le_of_ble_eq_true rfl,fun T2 hT1=>onTup_of (upd_self _ _ _) ⟨rfl,?_⟩⟩⟩))⟩
    simp only [usedL,List.append_nil] at e3
    subst e3
    generalize hH2:upd (upd (upd (upd (upd HH U (.list ((usedL ns 0).map V.int))) T (.tup [.ref x,.ref U])) S (.list [])) Bi (.list [])) T2 (.tup [.ref S,.ref Bi]) = H2
    have b2':Ext HH H2:=by rw [<- hH2];exact (Ext.new hU).trans ((Ext.new hT).trans ((Ext.new hS).trans ((Ext.new hBi).trans (Ext.new hT1))))
    refine xA3_1 (hb.keep E1) ?_;intro g0 mm0 t0 hD0 _
    have UD:U ∉ [D]:=by simpa using (ne_of_none hD0 hU).symm
    have BD:Bi ∉ [D]:=by simpa using (ne_of_none (alloc_keep hS (alloc_keep hT (alloc_keep hU hD0))) hBi).symm
    have U2:H2 U = some (.list ((usedL ns 0).map V.int)):=by
      rw [<- hH2];exact alloc_keep hT1 (alloc_keep hBi (alloc_keep hS (alloc_keep hT (upd_self _ _ _))))
    have S2:H2 S = some (.list []):=by
      rw [<- hH2];exact alloc_keep hT1 (alloc_keep hBi (upd_self _ _ _))
    have B2:H2 Bi = some (.list []):=by
      rw [<- hH2];exact alloc_keep hT1 (upd_self _ _ _)
    have hSB:S ≠ Bi:=ne_of_none (upd_self _ _ _) hBi
    have hUS:U ≠ S:=ne_of_none (alloc_keep hT (upd_self _ _ _)) hS
    have hSn:HH S = none:=none_keep (Ext.new hU) (none_keep (Ext.new hT) hS)
    clear hH2 hU hT hS hBi hT1
    have bD:=hb.keep (E1.trans b2')
    have DS:D ≠ S:=ne_of_none hD0 hSn
    have SD:S ∉ [D]:=by simpa using DS.symm
    have oldD:¬ H D = none:=by
      refine xA3_1 hb ?_;(try clear hb);intro g m t k1 _
      rw [k1];exact fun q=>by cases q
    have upos:=used_pos hw
    have ulen:=used_len ns 0
    refine ⟨D,most,B,rfl,m1,by lia,bD,by exact oA118 hB,fun tn H3 htn b3 x3=>iR_up (by lia) ?_⟩
    have htn':((1 + (tn:Int)) - 0).toNat = tn + 1:=by lia
    rw [htn']
    refine forW_inv (fun xs ls HK=>ExtB [D] HH HK /\ HK U = some (.list ((usedL ns 0).map V.int)) /\ ∃ (syms:List Nat) (Bi:Addr) (y5 y6 y9 y10:V),HK S = some (.list (natV syms)) /\ HK Bi = some (.list (natV (syms.flatMap (cw ns)))) /\ (∀ s ∈ syms,usedSym ns s) /\ syms.length + xs.length <= 4 /\ boxAt HK D (B + 1 + syms.length) /\ Bi ≠ S /\ Bi ∉ [D] /\ ls = [.ref D,.ref a,.int most,.ref x,.ref U,y5,y6,.ref S,.ref Bi,y9,y10]) ?_ ?_ ?_ _ _ _ (xI0_2 ((ExtB.of b2').trans x3) (x3 _ _ UD U2) (xI6_7 [] Bi (.unb) (.unb) (.unb) (.unb) (x3 _ _ SD S2) (x3 _ _ BD B2) (fun s q=>nomatch q) (by rw [rangeL_len];simp;lia) b3 hSB.symm BD rfl))
    · intros;trivial
    · intro ls HK hT1;refine xA0_2 hT1 ?_;(try clear hT1);intro F1 F2 hT2;refine xA6_7 hT2 ?_;(try clear hT2);intro syms Bi y5 y6 y9 y10 f1 f2 f3 f4 f5 f6 f7 hT3;subst hT3
      simp only [List.length_nil,Nat.add_zero] at f4
      have fl:=flat_len hw syms
      refine ⟨D,9,_,rfl,by decide,by decide,f5,by exact oA237 hB f4,fun ex H4 hex b4 x4=>iR_up (by lia) ⟨by rw [rangeL_len];lia,?_⟩⟩
      have hex':((ex:Int) - 0).toNat = ex:=by exact oA43
      rw [hex']
      refine compW_inv (fun xs acc ls HL=>ExtB [D] HK HL /\ ∃ (extra:List Nat) (y:V),acc = natV extra /\ extra.length + xs.length <= 8 /\ (∀ z ∈ extra,z < 2) /\ boxAt HL D (B + 6 + extra.length) /\ ls = [y,.ref D]) ?_ ?_ ?_ _ _ _ _ ⟨x4,(xI2_4 [] (.unb) rfl (by rw [rangeL_len];simp;exact oA97 hex) (fun s q=>nomatch q) (b4.mono (by simp;exact oA238 f4)) rfl)⟩
      · intros;trivial
      · intro acc ls HL hT1 D2 hD2;refine xA0_1 hT1 ?_;(try clear hT1);intro x5 hT2;refine xA2_4 hT2 ?_;(try clear hT2);intro extra y hT3;subst hT3;intro l1 l2 l3 hT4;subst hT4
        have f1':=x5 _ _ SD f1
        have f2':=x5 _ _ f7 f2
        simp only [List.length_nil,Nat.add_zero] at l1
        refine onList_of (alloc_keep hD2 f2') (onList_of (upd_self _ _ _) ⟨by rw [natV_len,natV_len];exact oA316 f4 fl l1,fun D3 hD3=>⟨Nat.le_of_ble_eq_true rfl,fun T hT=>?_⟩⟩)
        rw [<- natV_app] at hT ⊢
        refine hq T _ S D3 syms extra (upd_self _ _ _) (alloc_keep hT (alloc_keep hD3 (alloc_keep hD2 f1'))) (alloc_keep hT (upd_self _ _ _)) f3 f4 l1 l2 ?_
        exact ((ExtB.of E1).trans (F1.trans x5)).trans (.of ((Ext.new hD2).trans ((Ext.new hD3).trans (Ext.new hT))))
      · intro v xs acc ls HL K hT1 hK;refine xA0_1 hT1 ?_;(try clear hT1);intro x5 hT2;refine xA2_4 hT2 ?_;(try clear hT2);intro extra y hT3;subst hT3;intro l1 l2 l3 hT4;subst hT4
        have hxl:(v :: xs).length = xs.length + 1:=rfl
        rw [hxl] at l1
        refine ⟨D,2,_,rfl,by decide,by decide,l3,by exact oA315 hB l1,fun z H6 hz b6 x6=>hK _ _ _ ⟨x5.trans x6,(xI2_4 (extra ++ [z]) v (by rw [natV_app];rfl) (by rw [List.length_append];simp;lia) (fun q hq=>?_) (b6.mono (by rw [List.length_append];simp;exact oA184)) rfl)⟩⟩
        rcases List.mem_append.mp hq with hq | hq
        · exact l2 q hq
        · rw [List.mem_singleton] at hq;rw [hq];exact hz
    · intro v xs ls HK K hT1 hK;refine xA0_2 hT1 ?_;(try clear hT1);intro F1 F2 hT2;refine xA6_7 hT2 ?_;(try clear hT2);intro syms Bi y5 y6 y9 y10 f1 f2 f3 f4 f5 f6 f7 hT3;subst hT3
      have hxl:(v :: xs).length = xs.length + 1:=rfl
      rw [hxl] at f4
      have fl:=flat_len hw syms
      refine onList_of F2 ⟨by rw [List.length_map];lia,⟨ D,(usedL ns 0).length,_,by show [V.ref D,V.int (((usedL ns 0).map V.int).length:Nat)] = _;rw [List.length_map],upos,by lia,f5,by exact oA314 hB f4,fun j H4 hj b4 x4=>?_⟩⟩
      refine xA1_0 (⟨_,List.getElem?_eq_getElem hj⟩:∃ s,(usedL ns 0)[j]? = some s) ?_;intro sI hs
      refine xA1_1 (used_mem (List.mem_of_getElem? hs)) ?_;intro i hi hT1;refine xA1_1 hT1 ?_;(try clear hT1);intro dI hd hd0
      rw [Nat.zero_add] at hi
      subst hi
      refine xA1_0 (⟨dI.toNat,by lia⟩:∃ d:Nat,dI = d) ?_;intro d hT1;subst hT1
      have hd11:=(hw.1 _ (List.mem_of_getElem? hd)).2
      have tk:=ht.keepB (F1.trans x4) oldD hD0
      refine xA7_2 tk.at ?_;intro dx Ll Lg Lc tts mm kk q1 q2 q3
      refine onLD_ofL (x4 _ _ UD F2) ⟨⟨by exact oA63,by lia⟩,(xI1_2 (.int (i:Nat)) (by rw [Int.toNat_natCast,List.getElem?_map,hs];rfl) (xI3_3 x dx _ rfl q1 q2 rfl) ⟨ x,i,d,ns,rfl,tk.at,hd,fun t H5 E5 ht5=>?_⟩)⟩
      have f1':=E5 _ _ (x4 _ _ SD f1)
      have f2':=E5 _ _ (x4 _ _ f7 f2)
      have b5:=b4.keep E5
      refine onTup_of ht5 ⟨(xI2_1 S _ rfl f1'),onList_of f1' (xI0_2 (by rw [natV_len];lia) rfl (iR_up (by lia) ⟨by rw [rangeL_len];lia,?_⟩))⟩
      have hdn:((d:Int) - 0).toNat = d:=by exact oA43
      rw [hdn]
      generalize hH6:upd H5 S (.list (natV syms ++ [V.int (i:Nat)])) = H6
      have s6:H6 S = some (.list (natV (syms ++ [i]))):=by rw [<- hH6,upd_self,natV_app];rfl
      have o6:∀ b mo,b ≠ S -> H5 b = some mo -> H6 b = some mo:=fun b mo hbS e=>by rw [<- hH6,upd_ne _ _ hbS];exact e
      have bi6:=o6 _ _ f6 f2'
      have u6:=o6 _ _ hUS (E5 _ _ (x4 _ _ UD F2))
      refine compW_inv (fun xs acc ls HL=>HL = H6 /\ ∃ (k:Nat) (y:V),k <= d /\ xs = rangeL 1 (d - k) (k:Int) /\ acc = natV ((List.range k).map (bitAt (codeV ns i d) d)) /\ ls = [y,.int (codeV ns i d:Nat),.int d]) ?_ ?_ ?_ _ _ _ _ ⟨rfl,(xI2_3 0 (.unb) (Nat.zero_le _) rfl rfl rfl)⟩
      · intros;trivial
      · intro acc ls HL hT1 D2 hD2;refine xA0_1 hT1 ?_;(try clear hT1);intro hT2;subst hT2;intro hT3;refine xA2_3 hT3 ?_;(try clear hT3);intro k y k1 k2 hT4;subst hT4;intro hT5;subst hT5
        have hk:k = d:=by
          have:=congrArg List.length k2
          rw [rangeL_len] at this
          simp at this;exact oA250 k1 this
        subst hk
        have hcw:(List.range k).map (bitAt (codeV ns i k) k) = cw ns i:=by
          unfold cw;rw [hd];rfl
        have l11:=cw_len hw i
        rw [hcw]
        refine onList_of (alloc_keep hD2 bi6) (onList_of (upd_self _ _ _) ⟨by rw [natV_len,natV_len];exact oA333 f4 fl l11,fun D3 hD3=>?_⟩)
        rw [<- natV_app]
        have fl':(syms ++ [i]).flatMap (cw ns) = syms.flatMap (cw ns) ++ cw ns i:=by simp
        refine hK _ _ (xI0_2 ?_ (alloc_keep hD3 (alloc_keep hD2 u6)) (xI6_7 (syms ++ [i]) D3 _ _ _ _ (alloc_keep hD3 (alloc_keep hD2 s6)) (by rw [upd_self,fl']) ?_ ?_ ?_ ((ne_of_none (alloc_keep hD2 s6) hD3).symm) ?_ rfl))
        · intro b mo hbD e
          refine alloc_keep hD3 (alloc_keep hD2 (o6 b mo (ne_of_none e hSn) ?_))
          exact E5 _ _ (x4 b mo hbD (F1 b mo hbD e))
        · intro s hs
          rcases List.mem_append.mp hs with hs | hs
          · exact f3 s hs
          · rw [List.mem_singleton] at hs;rw [hs];exact (xI1_1 k hd (by exact oA55 hd0))
        · rw [List.length_append];simp;lia
        · refine xA3_2 b5 ?_;(try clear b5);intro g m t z1 z2 z3
          exact (xI3_2 g m t (alloc_keep hD3 (alloc_keep hD2 (o6 _ _ DS z1))) z2 (by rw [List.length_append];simp;omega))
        · refine xA3_2 b5 ?_;(try clear b5);intro g m t z1 z2 z3
          intro z
          rw [List.mem_singleton] at z
          exact ne_of_none (alloc_keep hD2 (o6 _ _ DS z1)) hD3 z.symm
      · intro v xs acc ls HL K2 hT1 hK2;refine xA0_1 hT1 ?_;(try clear hT1);intro hT2;subst hT2;intro hT3;refine xA2_3 hT3 ?_;(try clear hT3);intro k y k1 k2 hT4;subst hT4;intro hT5;subst hT5
        have hkd:k < d:=by
          rcases Nat.lt_or_ge k d with q | q
          · exact q
          · rw [show d - k = 0 by exact oA266 q] at k2;cases k2
        rw [show d - k = (d - (k + 1)) + 1 by exact oA210 hkd] at k2
        cases k2
        have e1:((d:Int) - 1 - k).toNat = d - 1 - k:=by lia
        have p:=Nat.pow_le_pow_right (n:=2) (by decide) (show d - 1 - k <= 11 by exact oA154 hd11)
        have p0:=Nat.two_pow_pos (d - 1 - k)
        have e2:Int.fmod (Int.fdiv (codeV ns i d:Nat) ((2:Int) ^ ((d:Int) - 1 - k).toNat)) 2 = (bitAt (codeV ns i d) d k:Nat):=by
          rw [e1,pow2N,fdivN];exact fmodN _ 2
        refine (xI0_3 (xI0_2 ⟨by decide,by decide⟩ (by lia) (by lia)) (by rw [e1,pow2N];exact (xI0_2 (by exact oA57 p0) (by exact oA53) (by exact oA117 p))) (by decide) (hK2 _ _ _ ⟨rfl,(xI2_3 (k + 1) (.int k) hkd (by congr 1) ?_ rfl)⟩))
        rw [List.range_succ,List.map_append,natV_app]
        show _ = _ ++ [V.int (bitAt (codeV ns i d) d k:Nat)]
        rw [<- e2]
  · intro y0 xs acc ls HH K hT1 hK;refine xA0_1 hT1 ?_;(try clear hT1);intro hT2;subst hT2;intro hT3;refine xA2_1 hT3 ?_;(try clear hT3);intro rest k e1 hT4;refine xA1_2 hT4 ?_;(try clear hT4);intro done e2 e3 e4
    cases rest with
    | nil => cases e1
    | cons y r =>
      cases e1
      refine xA2_0 (?_:∃ l0 l1,ls = [l0,l1]) ?_
      · match ls,e4 with
        | [l0,l1],_ => exact (xI2_0 l0 l1 rfl)
      intro l0 l1 hT1;subst hT1
      refine ⟨fun q=>hK _ _ _ ⟨rfl,(xI2_1 r (k + 1) rfl (xI1_2 (done ++ [(k:Int)]) (by rw [e2];simp) ?_ rfl))⟩,fun q=>hK _ _ _ ⟨rfl,(xI2_1 r (k + 1) rfl (xI1_2 done e2 ?_ rfl))⟩⟩
      · rw [usedL,if_pos q] at e3;rw [<- e3];simp
      · rw [usedL,if_neg q] at e3;exact e3
end
noncomputable def winX (W p:Nat):Nat:=W * 2 ^ 11 / 2 ^ p % 2 ^ 11
noncomputable def Dec (ns:List Int) (W p s l:Nat):Prop:=1 <= l /\ l <= 11 /\ ∃ j,(idx ns l 0)[j]? = some s /\ winX W p / 2 ^ (11 - l) = st ns l + j
theorem winX_lt (W p:Nat):winX W p < 2048:=Nat.mod_lt _ (by decide)
theorem dec_ex {ns:List Int} (w:whole ns) (W p:Nat):∃ s l,Dec ns W p s l:=by
  refine xA2_3 (find_code w (winX_lt W p)) ?_;intro l j h1 h2 h3 h4
  have:j < (idx ns (l:Int) 0).length:=by rw [idx_len];exact h3
  exact (xI2_2 _ l h1 h2 (xI1_1 j (List.getElem?_eq_getElem this) h4))
theorem Dec.lt {ns:List Int} {l j s:Nat} (h:(idx ns (l:Int) 0)[j]? = some s):j < cnt ns l:=by
  have:=(List.getElem?_eq_some_iff.mp h).1
  rw [idx_len] at this;exact this
theorem dec_len {ns:List Int} (w:whole ns) {W p s l s' l':Nat} (h:Dec ns W p s l) (h':Dec ns W p s' l') (hlt:l < l'):False:=by
  refine xA0_2 h ?_;(try clear h);intro h1 h2 hT1;refine xA1_1 hT1 ?_;(try clear hT1);intro j h3 h4
  refine xA0_2 h' ?_;(try clear h');intro g1 g2 hT1;refine xA1_1 hT1 ?_;(try clear hT1);intro j' g3 g4
  have a:=above w (X:=winX W p) (l:=l) (by exact oA343 h4) (l' - 1 - l) (by exact oA229 h2 g2)
  rw [show l + (l' - 1 - l) = l' - 1 by exact oA201 hlt] at a
  have s1:=st_step w (l:=l' - 1) (by exact oA110 g2)
  have d:=half_div (winX W p) (l:=l' - 1) (by exact oA110 g2)
  rw [show l' - 1 + 1 = l' by exact oA70 g1] at s1 d
  have:=Dec.lt g3
  exact oA369 g4 a s1 d this
theorem dec_uniq {ns:List Int} (w:whole ns) {W p s l s' l':Nat} (h:Dec ns W p s l) (h':Dec ns W p s' l'):s = s' /\ l = l':=by
  rcases Nat.lt_trichotomy l l' with q | q | q
  · exact (dec_len w h h' q).elim
  · subst q
    refine xA0_2 h ?_;(try clear h);intro h1 h2 hT1;refine xA1_1 hT1 ?_;(try clear hT1);intro j h3 h4
    refine xA0_2 h' ?_;(try clear h');intro g1 g2 hT1;refine xA1_1 hT1 ?_;(try clear hT1);intro j' g3 g4
    have:j = j':=by exact oA358 h4 g4
    subst this
    rw [h3] at g3
    injection g3 with g3
    exact ⟨g3,rfl⟩
  · exact (dec_len w h' h q).elim
inductive Run (ns:List Int) (W:Nat):Nat -> List Nat -> Bool -> Prop
  | done : Run ns W 0 [] false
  | cut {p s l : Nat} : 0 < p -> Dec ns W p s l -> p < l -> Run ns W p [s] true
  | step {p s l : Nat} {r : List Nat} {c : Bool} : 0 < p -> Dec ns W p s l -> l <= p -> Run ns W (p - l) r c -> Run ns W p (s :: r) c
theorem run_ex {ns:List Int} (w:whole ns) (W p:Nat):∃ r c,Run ns W p r c:=by
  induction p using Nat.strongRecOn with
  | _ p ih =>
    rcases Nat.eq_zero_or_pos p with q | q
    · subst q;exact (xI2_0 _ _ (.done))
    · refine xA2_0 (dec_ex w W p) ?_;intro s l h
      by_cases g:l <= p
      · refine xA2_0 (ih (p - l) (by have:=h.1;exact oA219 q this)) ?_;intro r c hr
        exact (xI2_0 _ _ (.step q h g hr))
      · exact (xI2_0 _ _ (.cut q h (by exact oA271 g)))
theorem run_len {ns:List Int} {W:Nat}:∀ {p:Nat} {r:List Nat} {c:Bool},Run ns W p r c -> r.length <= p
  | _,_,_,.done => Nat.le_refl _
  | _,_,_,.cut h _ _ => h
  | _,_,_,.step (r := r) h d g k => by
    have:=run_len k
    have:=d.1
    rw [List.length_cons];omega
theorem dec_sym {ns:List Int} {W p s l:Nat} (h:Dec ns W p s l):s < ns.length /\ ns[s]? = some (l:Int):=by
  refine xA0_2 h ?_;(try clear h);intro h1 h2 hT1;refine xA1_1 hT1 ?_;(try clear hT1);intro j h3 h4
  refine xA1_2 ((idx_iff _ _ _ _ _).mp h3) ?_;intro s' q1 q2 q3
  rw [Nat.zero_add] at q1
  subst q1
  exact ⟨(List.getElem?_eq_some_iff.mp q2).1,q2⟩
theorem run_sym {ns:List Int} {W p:Nat} {r:List Nat} {c:Bool} (h:Run ns W p r c):∀ s ∈ r,s < ns.length:=by
  induction h with
  | done => exact fun zz h => nomatch h
  | cut _ d _ => exact fun s h => by rw [List.mem_singleton] at h;rw [h];exact (dec_sym d).1
  | step _ d _ k ih =>
    intro s h
    rcases List.mem_cons.mp h with rfl | h
    · exact (dec_sym d).1
    · exact ih s h
noncomputable def lowOK (b:List Nat) (W p pos R:Nat):Prop:=pos + R = 8 * b.length /\ ∀ i,i < R -> leVal b / 2 ^ (pos + i) % 2 = 1 - W * 2 ^ (i + 1) / 2 ^ p % 2
theorem lowOK.next {b:List Nat} {W p pos R l:Nat} (h:lowOK b W p pos R) (hp:l <= p) (hR:l <= R):lowOK b W (p - l) (pos + l) (R - l):=by
  refine ⟨by have:=h.1;lia,fun i hi=>?_⟩
  have:=h.2 (l + i) (by exact oA300 hi)
  rw [show pos + l + i = pos + (l + i) by exact oA291,this]
  congr 2
  rw [show l + i + 1 = (i + 1) + l by lia,Nat.pow_add,<- Nat.mul_assoc]
  have e:2 ^ p = 2 ^ (p - l) * 2 ^ l:=by rw [<- Nat.pow_add,show p - l + l = p by exact oA260 hp]
  rw [e,Nat.mul_div_mul_right _ _ (Nat.two_pow_pos _)]
theorem comp_bit {X i:Nat} (hX:X < 2048) (hi:i <= 10):(2047 - X) / 2 ^ (10 - i) % 2 = 1 - X / 2 ^ (10 - i) % 2:=by
  rw [<- Nat.toNat_testBit,<- Nat.toNat_testBit]
  rw [show 2047 - X = 2 ^ 11 - (X + 1) from (Nat.sub_sub (2 ^ 11) 1 X).trans (congrArg _ (Nat.add_comm 1 X)),Nat.testBit_two_pow_sub_succ hX,decide_eq_true (Nat.lt_of_le_of_lt (Nat.sub_le _ _) (by decide:10 < 11))]
  cases X.testBit (10 - i) <;> rfl
theorem win_bit (W p i:Nat) (hi:i <= 10):winX W p / 2 ^ (10 - i) % 2 = W * 2 ^ (i + 1) / 2 ^ p % 2:=by
  unfold winX
  have e:(2:Nat) ^ 11 = 2 ^ (10 - i) * 2 ^ (i + 1):=by rw [<- Nat.pow_add,show 10 - i + (i + 1) = 11 by omega]
  rw [e,Nat.mod_mul_right_div_self,Nat.div_div_eq_div_mul,Nat.mul_comm (2 ^ p),<- Nat.div_div_eq_div_mul,Nat.mul_comm (2 ^ (10 - i)),<- Nat.mul_assoc,Nat.mul_div_cancel _ (Nat.two_pow_pos _),Nat.mod_mod_of_dvd]
  rw [Nat.pow_succ];exact Nat.dvd_mul_left _ _
theorem idx_rev {ns:List Int} {l j s:Nat} (h:(idx ns (l:Int) 0)[j]? = some s):(idx ns.reverse (l:Int) 0)[cnt ns l - 1 - j]? = some (ns.length - 1 - s):=by
  refine xA1_2 ((idx_iff _ _ _ _ _).mp h) ?_;intro s' q1 q2 q3
  rw [Nat.zero_add] at q1
  subst q1
  have hs:=(List.getElem?_eq_some_iff.mp q2).1
  refine (idx_iff _ _ _ _ _).mpr (xI1_2 (ns.length - 1 - s) (by exact oA187) ?_ ?_)
  · rw [List.getElem?_reverse (by exact oA209 hs),<- q2];congr 1;exact oA208 hs
  · have e1:ns.reverse.take (ns.length - 1 - s) = (ns.drop (s + 1)).reverse:=by
      rw [List.take_reverse];congr 2;exact oA207 hs
    rw [e1,List.count_reverse]
    have e2:cnt ns l = (ns.take s).count (l:Int) + (1 + (ns.drop (s + 1)).count (l:Int)):=by
      have:ns = ns.take s ++ (l:Int) :: ns.drop (s + 1):=by
        conv=>lhs;rw [<- List.take_append_drop s ns]
        congr 1
        rw [List.drop_eq_getElem_cons hs]
        congr 1
        rw [List.getElem?_eq_getElem hs] at q2;injection q2
      unfold cnt
      conv=>lhs;rw [this]
      rw [List.count_append,List.count_cons_self];exact oA169
    exact oA346 q3 e2
theorem read_pre {ns:List Int} (w:whole ns) {W p s l:Nat} {b:List Nat} {pos R:Nat} (h:Dec ns W p s l) (hl:lowOK b W p pos R):∃ j Y,Y < 2048 /\ (idx ns.reverse (l:Int) 0)[j]? = some (ns.length - 1 - s) /\ Y / 2 ^ (11 - l) = 2 * u ns.reverse (l - 1) + j /\ ∀ i,i < l -> i < R -> leVal b / 2 ^ (pos + i) % 2 = Y / 2 ^ (10 - i) % 2:=by
  refine xA0_2 h ?_;(try clear h);intro h1 h2 hT1;refine xA1_1 hT1 ?_;(try clear hT1);intro j h3 h4
  have hX:=winX_lt W p
  have hj:=Dec.lt h3
  refine (xI2_3 (cnt ns l - 1 - j) (2047 - winX W p) (by exact oA76) (idx_rev h3) ?_ (fun i hi hiR=>?_))
  · rw [comp_div hX h2,h4,u_rev]
    have e3:u ns l = 2 * u ns (l - 1) + cnt ns l:=by
      refine xA1_0 (⟨l - 1,by exact oA71 h1⟩:∃ k,l = k + 1) ?_;intro k hT1;subst hT1
      rfl
    have:=whole_le w h2
    unfold st at *
    exact oA359 hj e3 this
  · rw [hl.2 i hiR,comp_bit hX (by exact oA227 h2 hi),win_bit _ _ _ (by exact oA227 h2 hi)]
noncomputable def num (a:Nat) (bits:List Nat):Nat:=bits.foldl (fun a b=>2 * a + b) a
theorem num_split:∀ (bits:List Nat) (a:Nat),num a bits = a * 2 ^ bits.length + num 0 bits
  | [],a => by show a = a * 2 ^ 0 + 0;lia
  | b :: r,a => by
    show num (2 * a + b) r = a * 2 ^ (r.length + 1) + num (2 * 0 + b) r
    rw [num_split r (2 * a + b),num_split r (2 * 0 + b),Nat.pow_succ,Nat.add_mul,Nat.mul_zero,Nat.zero_add,Nat.mul_comm 2 a,Nat.mul_assoc,Nat.mul_comm 2 (2 ^ r.length)]
    exact oA291
theorem num_lt:∀ {bits:List Nat},(∀ b ∈ bits,b < 2) -> num 0 bits < 2 ^ bits.length
  | [],_ => Nat.one_pos
  | b :: r,h => by
    have h1:=h b (.head _)
    have h2:=num_lt (bits:=r) fun y hy=>h y (.tail _ hy)
    show num (2 * 0 + b) r < 2 ^ (r.length + 1)
    rw [num_split,Nat.pow_succ]
    have:b = 0 ∨ b = 1:=by lia
    rcases this with rfl | rfl <;> lia
theorem num_app (a c:List Nat) (x:Nat):num x (a ++ c) = num (num x a) c:=by unfold num;rw [List.foldl_append]
noncomputable def wnum (bits:List Nat):Nat:=num 1 bits
theorem wnum_ge (bits:List Nat):2 ^ bits.length <= wnum bits:=by unfold wnum;rw [num_split];lia
theorem wnum_lt {bits:List Nat} (h:∀ b ∈ bits,b < 2):wnum bits < 2 ^ (bits.length + 1):=by
  unfold wnum;rw [num_split,Nat.pow_succ];have:=num_lt h;exact oA200 this
theorem wnum_cut {a c:List Nat} (h:∀ b ∈ c,b < 2):wnum (a ++ c) / 2 ^ c.length = wnum a:=by
  unfold wnum
  rw [num_app,num_split c,Nat.add_comm,Nat.add_mul_div_right _ _ (Nat.two_pow_pos _),Nat.div_eq_of_lt (num_lt h),Nat.zero_add]
theorem wnum_bit {bits:List Nat} (h:∀ b ∈ bits,b < 2) {i b:Nat} (hi:bits[i]? = some b):wnum bits / 2 ^ (bits.length - 1 - i) % 2 = b:=by
  have hlt:=(List.getElem?_eq_some_iff.mp hi).1
  have e:bits = bits.take (i + 1) ++ bits.drop (i + 1):=(List.take_append_drop _ _).symm
  have e2:(bits.drop (i + 1)).length = bits.length - 1 - i:=by rw [List.length_drop];lia
  have e3:bits.take (i + 1) = bits.take i ++ [b]:=by
    rw [List.take_add_one,hi];rfl
  conv=>lhs;rw [e]
  have hd:(List.take (i + 1) bits ++ List.drop (i + 1) bits).length - 1 - i = (bits.drop (i + 1)).length:=by rw [<- e,e2]
  rw [hd,wnum_cut fun z hz=>h z (List.mem_of_mem_drop hz),e3]
  unfold wnum
  rw [num_app]
  show (2 * num 1 (bits.take i) + b) % 2 = b
  have:=h b (List.mem_of_getElem? hi)
  lia
theorem bitsOf_num {c l:Nat} (h:c < 2 ^ l):num 0 (bitsOf c l) = c:=by
  have go:∀ k,k <= l -> num 0 ((List.range k).map (bitAt c l)) = c / 2 ^ (l - k):=fun k=>by
    induction k with
    | zero => intro _;rw [Nat.sub_zero,Nat.div_eq_of_lt h];rfl
    | succ k ih =>
      intro hk
      rw [List.range_succ,List.map_append,num_app,ih (by exact oA181 hk)]
      show 2 * (c / 2 ^ (l - k)) + bitAt c l k = _
      unfold bitAt
      have e:l - k = (l - (k + 1)) + 1:=by lia
      have e2:l - 1 - k = l - (k + 1):=by lia
      rw [e,e2,Nat.pow_succ,<- Nat.div_div_eq_div_mul]
      exact oA167
  have:=go l (Nat.le_refl _)
  rw [Nat.sub_self,Nat.pow_zero,Nat.div_one] at this
  exact this
theorem bitsOf_len (c l:Nat):(bitsOf c l).length = l:=by unfold bitsOf;simp
theorem bitsOf_lt (c l:Nat):∀ b ∈ bitsOf c l,b < 2:=fun b hb=>by
  unfold bitsOf at hb
  refine xA1_1 (List.mem_map.mp hb) ?_;intro k _ hT1;subst hT1
  exact Nat.mod_lt _ (by decide)
theorem cw_lt (ns:List Int) (s:Nat):∀ b ∈ cw ns s,b < 2:=fun b hb=>by
  unfold cw at hb
  split at hb
  · exact bitsOf_lt _ _ b hb
  · cases hb
theorem flat_lt (ns:List Int) (syms:List Nat):∀ b ∈ syms.flatMap (cw ns),b < 2:=fun b hb=>by
  refine xA1_1 (List.mem_flatMap.mp hb) ?_;intro s _ h
  exact cw_lt ns s b h
theorem code_lt {ns:List Int} (w:whole ns) {s d:Nat} (h:ns[s]? = some (d:Int)) (hd:0 < d):codeV ns s d < 2 ^ d:=by
  have hm:=(w.1 _ (List.mem_of_getElem? h)).2
  unfold codeV
  rw [if_neg (by exact oA61 hd)]
  have g:=(idx_iff (d:Int) ns 0 ((ns.take s).count (d:Int)) s).mpr (xI1_2 s (by exact oA99) h rfl)
  have:=Dec.lt g
  have e3:u ns d = 2 * u ns (d - 1) + cnt ns d:=by
    refine xA1_0 (⟨d - 1,by exact oA59 hd⟩:∃ k,d = k + 1) ?_;intro k hT1;subst hT1
    rfl
  have:=whole_le w (l:=d) (by exact oA52 hm)
  unfold st
  omega
theorem dec_laid {ns:List Int} (w:whole ns) {s:Nat} (hu:usedSym ns s) (pre rest:List Nat) (hr:∀ b ∈ rest,b < 2) :
    ∃ d,0 < d /\ (cw ns s).length = d /\ Dec ns (wnum (pre ++ (cw ns s ++ rest))) (d + rest.length) s d:=by
  refine xA1_1 hu ?_;(try clear hu);intro d hd hd0
  have hm:=(w.1 _ (List.mem_of_getElem? hd)).2
  have ecw:cw ns s = bitsOf (codeV ns s d) d:=by unfold cw;rw [hd];rfl
  refine ⟨d,hd0,by rw [ecw,bitsOf_len],hd0,by exact oA52 hm,(xI1_1 ((ns.take s).count (d:Int)) ((idx_iff _ _ _ _ _).mpr (xI1_2 s (by exact oA99) hd rfl)) ?_)⟩
  have hwd:=win_div (wnum (pre ++ (cw ns s ++ rest))) (d + rest.length) d (by exact oA52 hm)
  show winX _ _ / _ = _
  unfold winX
  rw [<- hwd]
  have e:2 ^ (d + rest.length) = 2 ^ rest.length * 2 ^ d:=by rw [Nat.add_comm,Nat.pow_add]
  rw [e,Nat.mul_div_mul_right _ _ (Nat.two_pow_pos _),<- List.append_assoc,wnum_cut hr,ecw]
  unfold wnum
  rw [num_app,num_split,bitsOf_len,bitsOf_num (code_lt w hd hd0),Nat.add_comm,Nat.add_mul_mod_self_right,Nat.mod_eq_of_lt (code_lt w hd hd0)]
  unfold codeV
  rw [if_neg (by exact oA61 hd0)]
theorem laid_run {ns:List Int} (w:whole ns) {extra:List Nat} (he:∀ b ∈ extra,b < 2):∀ (syms:List Nat) (pre:List Nat) {all:List Nat} {c:Bool},(∀ s ∈ syms,usedSym ns s) ->
    Run ns (wnum (pre ++ (syms.flatMap (cw ns) ++ extra))) (syms.flatMap (cw ns) ++ extra).length all c -> ∃ t,all = syms ++ t
  | [],_,all,_,_,_ => ⟨all,rfl⟩
  | s :: r,pre,all,c,hu,h => by
    have hrest:∀ b ∈ r.flatMap (cw ns) ++ extra,b < 2:=fun b hb=>by
      rcases List.mem_append.mp hb with hb | hb
      · exact flat_lt ns r b hb
      · exact he b hb
    refine xA1_2 (dec_laid w (hu s (.head _)) pre (r.flatMap (cw ns) ++ extra) hrest) ?_;intro d hd0 hdl hdec
    rw [List.flatMap_cons,List.append_assoc] at h
    have hlen:(cw ns s ++ (r.flatMap (cw ns) ++ extra)).length = d + (r.flatMap (cw ns) ++ extra).length:=by rw [List.length_append,hdl]
    rw [hlen] at h
    generalize hp:d + (r.flatMap (cw ns) ++ extra).length = p at h hdec
    cases h with
    | cut h1 h2 h3 =>
      refine xA0_1 (dec_uniq w h2 hdec) ?_;intro e1 e2
      lia
    | step h1 h2 h3 h4 =>
      refine xA0_1 (dec_uniq w h2 hdec) ?_;intro e1 e2
      subst e1 e2
      rw [<- hp,Nat.add_sub_cancel_left] at h4
      rw [<- List.append_assoc] at h4
      refine xA1_0 (laid_run w he r _ (fun s hs=>hu s (.tail _ hs)) h4) ?_;intro t ht
      exact ⟨t,by rw [ht];rfl⟩
    | done => lia
noncomputable def octs (W m:Nat):List Nat:=(List.range m).map fun k=>W / 256 ^ k % 256
theorem octs_len (W m:Nat):(octs W m).length = m:=by unfold octs;simp
theorem octs_lt (W m:Nat):∀ x ∈ octs W m,x < 256:=fun x hx=>by
  unfold octs at hx
  refine xA1_1 (List.mem_map.mp hx) ?_;intro k _ hT1;subst hT1
  exact Nat.mod_lt _ (by decide)
theorem leVal_app:∀ a b:List Nat,leVal (a ++ b) = leVal a + 256 ^ a.length * leVal b
  | [],b => by show leVal b = 0 + 256 ^ 0 * leVal b;lia
  | x :: r,b => by
    show x + 256 * leVal (r ++ b) = x + 256 * leVal r + 256 ^ (r.length + 1) * leVal b
    rw [leVal_app r b,Nat.pow_succ,Nat.mul_add,Nat.mul_comm (256 ^ r.length) 256,Nat.mul_assoc];exact oA283
theorem octs_val (W:Nat):∀ m,leVal (octs W m) = W % 256 ^ m
  | 0 => by rw [Nat.pow_zero,Nat.mod_one];rfl
  | m + 1 => by
    have e:octs W (m + 1) = octs W m ++ [W / 256 ^ m % 256]:=by unfold octs;rw [List.range_succ,List.map_append];rfl
    rw [e,leVal_app,octs_val W m,octs_len,Nat.pow_succ,Nat.mod_mul]
    show _ + _ * (W / 256 ^ m % 256 + 256 * 0) = _
    rw [Nat.mul_zero,Nat.add_zero]
theorem data_ok {bits:List Nat} (h:∀ b ∈ bits,b < 2):leVal (octs (wnum bits) (bits.length / 8 + 1)) = wnum bits /\ ∃ v,(octs (wnum bits) (bits.length / 8 + 1)).getLast? = some v /\ 0 < v:=by
  have hlt:=wnum_lt h
  have hge:=wnum_ge bits
  have e256:∀ k:Nat,(256:Nat) ^ k = 2 ^ (8 * k):=fun k=>by rw [Nat.pow_mul]
  have hW:wnum bits < 256 ^ (bits.length / 8 + 1):=by
    rw [e256]
    exact Nat.lt_of_lt_of_le hlt (Nat.pow_le_pow_right (by decide) (by lia))
  refine ⟨by rw [octs_val,Nat.mod_eq_of_lt hW],(xI1_1 (wnum bits / 256 ^ (bits.length / 8) % 256) ?_ ?_)⟩
  · unfold octs;rw [List.range_succ,List.map_append];simp
  · rw [Nat.mod_eq_of_lt]
    · refine Nat.div_pos (Nat.le_trans ?_ hge) (Nat.pow_pos (by decide))
      rw [e256]
      exact Nat.pow_le_pow_right (by decide) (by exact oA79)
    · rw [Nat.div_lt_iff_lt_mul (Nat.pow_pos (by decide)),<- Nat.pow_succ'];exact hW
theorem leVal_bit0 {z k:Nat} (hk:k < 8):z / 2 ^ k % 2 = z % 256 / 2 ^ k % 2:=by
  have e:2 ^ k * 2 ^ (8 - k) = 256:=by rw [<- Nat.pow_add,Nat.add_sub_cancel' (Nat.le_of_lt hk)]
  rw [<- e,Nat.mod_mul_right_div_self,Nat.mod_mod_of_dvd _ (Nat.pow_dvd_pow 2 (Nat.sub_pos_of_lt hk):2 ^ 1 ∣ _)]
theorem leVal_bit {b:List Nat} {p v k:Nat} (h:∀ x ∈ b,x < 256) (hp:b[p]? = some v) (hk:k < 8):leVal b / 2 ^ (8 * p + k) % 2 = v / 2 ^ k % 2:=by
  rw [Nat.pow_add,Nat.pow_mul,<- Nat.div_div_eq_div_mul,show (2:Nat) ^ 8 = 256 from rfl,<- leVal_at h hp]
  exact leVal_bit0 hk
noncomputable def overL (spare:Nat) (bits:List Nat):List Nat:=List.replicate spare 0 ++ bits.map (fun b=>1 - b)
noncomputable def octV (o:List Nat) (i:Nat):Nat:=((List.range 8).map fun k=>o.getD (8 * i + k) 0 * 2 ^ k).sum
noncomputable def octL (o:List Nat) (q:Nat):List Nat:=(List.range q).map (octV o)
theorem overL_lt (spare:Nat) (bits:List Nat) (i:Nat):(overL spare bits).getD i 0 < 2:=by
  rw [List.getD_eq_getElem?_getD]
  cases h:(overL spare bits)[i]? with
  | none => exact (by decide)
  | some v =>
    have hm:=List.mem_of_getElem? h
    unfold overL at hm
    show v < 2
    rcases List.mem_append.mp hm with q | q
    · have:=List.eq_of_mem_replicate q;lia
    · obtain ⟨b,_,rfl⟩:=List.mem_map.mp q;exact oA65
theorem bs0 {a:Nat} (h:a < 2):a / 2 ^ 0 % 2 = a:=by rw [Nat.div_one];exact Nat.mod_eq_of_lt h
theorem bs1 {a:Nat} (z:Nat) (h:a < 2):(a + 2 * z) / 2 ^ 0 % 2 = a:=by rw [Nat.div_one,Nat.add_mul_mod_self_left];exact Nat.mod_eq_of_lt h
theorem bsn {a:Nat} (z:Nat) (k:Nat) (h:a < 2):(a + 2 * z) / 2 ^ (k + 1) % 2 = z / 2 ^ k % 2:=by
  rw [Nat.pow_succ',<- Nat.div_div_eq_div_mul,Nat.add_mul_div_left _ _ (by decide),Nat.div_eq_of_lt h,Nat.zero_add]
theorem bslt {a z n:Nat} (h:a < 2) (k:z < n):a + 2 * z < 2 * n:=Nat.lt_of_lt_of_le (Nat.add_lt_add_right h (2 * z)) (Nat.le_trans (Nat.le_of_eq (Nat.add_comm 2 (2 * z))) (Nat.mul_le_mul_left 2 k))
theorem bs_succ (f:Nat -> Nat) (n:Nat):((List.range (n + 1)).map fun k=>f k * 2 ^ k).sum = f 0 + 2 * ((List.range n).map fun k=>f (k + 1) * 2 ^ k).sum:=by
  rw [List.range_succ_eq_map,List.map_cons,List.sum_cons,List.map_map,Nat.pow_zero,Nat.mul_one]
  congr 1
  generalize List.range n = l
  induction l with
  | nil => rfl
  | cons x r ih => rw [List.map_cons,List.map_cons,List.sum_cons,List.sum_cons,ih,Nat.mul_add,Function.comp,Nat.pow_succ',Nat.mul_left_comm]
theorem bs_lt (n:Nat):∀ f:Nat -> Nat,(∀ k,f k < 2) -> ((List.range n).map fun k=>f k * 2 ^ k).sum < 2 ^ n:=by
  induction n with
  | zero => exact fun zz zz => Nat.zero_lt_one
  | succ n ih =>
    intro f h
    rw [bs_succ,Nat.pow_succ']
    exact bslt (h 0) (ih _ fun k=>h (k + 1))
theorem bs_bit (n:Nat):∀ (f:Nat -> Nat) (k:Nat),(∀ k,f k < 2) -> k < n -> ((List.range n).map fun k=>f k * 2 ^ k).sum / 2 ^ k % 2 = f k:=by
  induction n with
  | zero => exact fun zz k zz h => absurd h (Nat.not_lt_zero k)
  | succ n ih =>
    intro f k h hk
    rw [bs_succ]
    cases k with
    | zero => exact bs1 _ (h 0)
    | succ k => exact (bsn _ k (h 0)).trans (ih (fun k => f (k + 1)) k (fun k => h (k + 1)) (Nat.lt_of_succ_lt_succ hk))
theorem octV_lt {o:List Nat} (h:∀ i,o.getD i 0 < 2) (i:Nat):octV o i < 256:=bs_lt 8 (fun k=>o.getD (8 * i + k) 0) fun k=>h _
theorem octV_bit {o:List Nat} (h:∀ i,o.getD i 0 < 2) (i:Nat) {k:Nat} (hk:k < 8):octV o i / 2 ^ k % 2 = o.getD (8 * i + k) 0:=bs_bit 8 (fun k=>o.getD (8 * i + k) 0) k (fun k=>h _) hk
theorem octL_len (o:List Nat) (q:Nat):(octL o q).length = q:=by unfold octL;simp
theorem octL_lt {o:List Nat} (h:∀ i,o.getD i 0 < 2) (q:Nat):∀ x ∈ octL o q,x < 256:=fun x hx=>by
  unfold octL at hx
  refine xA1_1 (List.mem_map.mp hx) ?_;intro i _ hT1;subst hT1
  exact octV_lt h i
theorem low_bit {o t:List Nat} (h:∀ i,o.getD i 0 < 2) (ht:∀ x ∈ t,x < 256) {q i:Nat} (hi:i < 8 * q):leVal (octL o q ++ t) / 2 ^ i % 2 = o.getD i 0:=by
  have e:i = 8 * (i / 8) + i % 8:=by exact oA101
  have hq:i / 8 < q:=by exact oA192 hi
  have g:(octL o q ++ t)[i / 8]? = some (octV o (i / 8)):=by
    rw [List.getElem?_append_left (by rw [octL_len];exact hq)]
    unfold octL
    rw [List.getElem?_map,List.getElem?_range hq];rfl
  have hall:∀ x ∈ octL o q ++ t,x < 256:=fun x hx=>by
    rcases List.mem_append.mp hx with hx | hx
    · exact octL_lt h q x hx
    · exact ht x hx
  have h1:=leVal_bit hall g (k:=i % 8) (by exact oA80)
  have h2:=octV_bit h (i / 8) (k:=i % 8) (by exact oA80)
  rw [h2,<- e] at h1
  exact h1
theorem tail_bit {o t:List Nat} (h:∀ i,o.getD i 0 < 2) (ht:∀ x ∈ t,x = 255) {q i:Nat} (h1:8 * q <= i) (h2:i < 8 * q + 8 * t.length):leVal (octL o q ++ t) / 2 ^ i % 2 = 1:=by
  have e:i = 8 * (i / 8) + i % 8:=by exact oA101
  have g:(octL o q ++ t)[i / 8]? = some 255:=by
    rw [List.getElem?_append_right (by rw [octL_len];lia),octL_len]
    have hl:i / 8 - q < t.length:=by exact oA282 h1 h2
    rw [List.getElem?_eq_getElem hl,ht _ (List.getElem_mem hl)]
  have hall:∀ x ∈ octL o q ++ t,x < 256:=fun x hx=>by
    rcases List.mem_append.mp hx with hx | hx
    · exact octL_lt h q x hx
    · have:=ht x hx;exact oA100 this
  have h3:=leVal_bit hall g (k:=i % 8) (by exact oA80)
  rw [<- e] at h3
  rw [h3]
  have:i % 8 = 0 ∨ i % 8 = 1 ∨ i % 8 = 2 ∨ i % 8 = 3 ∨ i % 8 = 4 ∨ i % 8 = 5 ∨ i % 8 = 6 ∨ i % 8 = 7:=by exact oA81
  rcases this with q | q | q | q | q | q | q | q <;> rw [q]
theorem low_init {bits t:List Nat} (hb:∀ b ∈ bits,b < 2) (ht:∀ x ∈ t,x = 255) {spare q:Nat} (hq:spare + bits.length = 8 * q):lowOK (octL (overL spare bits) q ++ t) (wnum bits) bits.length spare (bits.length + 8 * t.length):=by
  have ho:=overL_lt spare bits
  refine ⟨by rw [List.length_append,octL_len];lia,fun i hi=>?_⟩
  by_cases hin:i < bits.length
  · rw [low_bit ho (fun x hx=>by have:=ht x hx;exact oA100 this) (by lia)]
    refine xA1_0 (⟨_,List.getElem?_eq_getElem hin⟩:∃ b,bits[i]? = some b) ?_;intro b hbi
    have e1:(overL spare bits).getD (spare + i) 0 = 1 - b:=by
      rw [List.getD_eq_getElem?_getD]
      unfold overL
      rw [List.getElem?_append_right (by simp),List.length_replicate,Nat.add_sub_cancel_left,List.getElem?_map,hbi];rfl
    have e2:=wnum_bit hb hbi
    have e3:wnum bits * 2 ^ (i + 1) / 2 ^ bits.length = wnum bits / 2 ^ (bits.length - 1 - i):=by
      have:2 ^ bits.length = 2 ^ (bits.length - 1 - i) * 2 ^ (i + 1):=by rw [<- Nat.pow_add];congr 1;exact oA211 hin
      rw [this,Nat.mul_div_mul_right _ _ (Nat.two_pow_pos _)]
    rw [e1,e3,e2]
  · rw [tail_bit ho ht (by lia) (by lia)]
    have e3:wnum bits * 2 ^ (i + 1) / 2 ^ bits.length = wnum bits * 2 ^ (i - bits.length) * 2:=by
      have:2 ^ (i + 1) = 2 ^ (i - bits.length) * 2 * 2 ^ bits.length:=by rw [<- Nat.pow_succ,<- Nat.pow_add];congr 1;omega
      rw [this,<- Nat.mul_assoc,<- Nat.mul_assoc,Nat.mul_div_cancel _ (Nat.two_pow_pos _)]
    rw [e3,Nat.mul_mod_left]
noncomputable def outR (r:List Nat) (c:Bool):List Nat:=if c then r.take (r.length - 1) else r
theorem run_cut_pos {ns:List Int} {W:Nat}:∀ {p:Nat} {r:List Nat},Run ns W p r true -> 1 <= r.length
  | _,_,.cut _ _ _ => Nat.le_refl _
  | _,_,.step _ _ _ k => by rw [List.length_cons];exact oA68
theorem out_step {ns:List Int} {W p s:Nat} {r:List Nat} {c:Bool} (h:Run ns W p r c):outR (s :: r) c = s :: outR r c:=by
  unfold outR
  cases c with
  | false => rfl
  | true =>
    have:=run_cut_pos h
    rw [if_pos rfl,if_pos rfl,List.length_cons,Nat.add_sub_cancel]
    refine xA1_0 (⟨r.length - 1,by exact oA71 this⟩:∃ k,r.length = k + 1) ?_;intro k hk
    rw [hk,List.take_succ_cons,Nat.add_sub_cancel]
theorem PRat.keepB {H H':MH} {x dy:Addr} {ns:List Int} {b:List Nat} {pos:Int} (h:PRat H x ns) (e:ExtB [dy] H H') (hd:H dy = some (lrAttrs b pos)):PRat H' x ns:=by
  refine xA4_5 h ?_;(try clear h);intro dx Lc Ls fs h1 h2 h3 h4 h5 h6
  have ne:∀ b' mo,H b' = some mo -> mo ≠ lrAttrs b pos -> H' b' = some mo:=fun b' mo hb q=>e b' mo (by
    rw [List.mem_singleton];exact ne_of_mo hb hd q) hb
  exact (xI4_5 dx Lc Ls fs (ne _ _ h1 (by intro q;cases q)) (ne _ _ h2 (by simp)) (ne _ _ h3 (by intro q;cases q)) (ne _ _ h4 (by intro q;cases q)) h5 h6)
section
variable {G:Gl} {c:Cx} {n:Nat}
inductive tillC (args:List V) (Q:QV) (X:XP) (H:MH):Prop
  | mk (r y dy b ns) (W p pos : Nat) (rest ct) (o1 : args = [.ref r,.ref y,.int ((ns.length : Int) - 1),.int ((rest.length : Int) + 1)]) (o2 : PRat H r ns.reverse) (o3 : whole ns) (o4 : ns.length <= 60) (o5 : LRat H y dy b pos) (o6 : ∀ x ∈ b,x < 256) (o7 : b.length <= 100000) (o8 : lowOK b W p pos p) (o9 : p <= 1000) (o10 : Run ns W p rest ct) (o11 : ∀ F H',H' F = some (.list (natV (outR rest ct))) -> ExtB [dy] H H' -> Q (.ref F) H')
set_option maxHeartbeats 600000 in
theorem till' (FX:Facts G):Fn G "_law_till_cut" 11 tillC:=FX.lw_till_cut.fn fun fa F=>by
  refine xA5_0 F ?_;(try clear F);intro doc pm an cdv ct F
  have GO:=FX.go
  have NB:=FX.nb
  have h_PR_read:=prread' FX
  refine fn_plain (wb:=_) (names:=["reader", "low", "last", "most", "found", "turn", "symbol"]) (k:=4) (m:=3) (n:=10) GO F (by decide +kernel) (by decide) rfl (by decide +kernel) ?_ (fun L st C=>(b_cons (s_asg C 4 (r_list l_nil))
      (b_cons (s_for C rfl (it_range1 GO (r_blt GO C (v:=.type "range") (NB _ (by decide)) rfl) (l_cons (r_loc C 3) l_nil)) (k_range C (a_loc C 5)) (b_cons (s_try C rfl (x_asg C 6 (r_meth GO (own_m GO C h_PR_read (by decide)) (r_loc C 0) (l_cons (r_loc C 1) l_nil))) (h_cons GO C FX.exc FX.in_CutShort (List.nodup_cons.mp FX.nd).1 FX.v_CutShort (q_loc C 4) h_end))
      (b_one (s_expr (r_meth GO (m_append C) (r_loc C 4) (l_cons (r_bin o_sub (r_loc C 2) (r_loc C 6)) l_nil)) rfl))))
      (b_one (s_ret r_none)))))
  rintro s args Q X H hb ⟨r,y,dy,b,ns,W,p,pos,rest,ct,h1,hp,hw,hl,⟨h2,h3⟩,h4,h5,h6,hp1,h7,h8⟩
  refine xA4_0 (map4 h1) ?_;intro u1 u2 u3 u4 hT1;refine xA0_4 hT1 ?_;(try clear hT1);intro hT2;subst hT2;intro e1 e2 e3 e4
  refine (xI1_2 [u1,u2,u3,u4] rfl (.of_eq (by rfl)) ?_)
  show fnW _ 3 [er u1,er u2,er u3,er u4] Q X H
  rw [e1,e2,e3,e4]
  have hwr:=(whole_rev ns).mpr hw
  refine ⟨by decide,fun F hF=>iR_up (by have:=run_len h7;lia) ?_⟩
  have hm:((rest.length:Int) + 1 - 0).toNat = rest.length + 1:=by exact oA41
  rw [hm]
  have Fdy:F ≠ dy:=(ne_of_none h3 hF).symm
  have ydy:y ≠ dy:=ne_of_mo h2 h3 (by intro q;cases q)
  refine forW_inv (fun xs ls HK=>ExtB [dy] H HK /\ ∃ (p' pos':Nat) (done rest':List Nat) (y5 y6:V),Run ns W p' rest' ct /\ xs.length = rest'.length + 1 /\ lowOK b W p' pos' p' /\ HK dy = some (lrAttrs b pos') /\ HK F = some (.list (natV done)) /\ done ++ outR rest' ct = outR rest ct /\ done.length <= 1000 /\ done.length + rest'.length <= 1000 /\ ls = [.ref r,.ref y,.int ((ns.length:Int) - 1),.int ((rest.length:Int) + 1),.ref F,y5,y6]) ?_ ?_ ?_ _ _ _ ⟨(ExtB.of (Ext.new hF)),(xI6_8 p pos [] rest (.unb) (.unb) h7 (by rw [rangeL_len]) h6 (alloc_keep hF h3) (upd_self _ _ _) rfl (by simp) (by have:=run_len h7;simp;exact oA223 hp1 this) rfl)⟩
  · intros;trivial
  · intro ls HK hT1;refine xA0_1 hT1 ?_;(try clear hT1);intro x1 hT2;refine xA6_0 hT2 ?_;(try clear hT2);intro p' pos' done rest' y5 y6 hT3;refine xA0_2 hT3 ?_;(try clear hT3);intro f1 f2 _
    simp at f2
  · intro v xs ls HK K hT1 hK;refine xA0_1 hT1 ?_;(try clear hT1);intro x1 hT2;refine xA6_0 hT2 ?_;(try clear hT2);intro p' pos' done rest' y5 y6 hT3;refine xA0_8 hT3 ?_;(try clear hT3);intro f1 f2 f3 f4 f5 f6 f7 f8 hT4;subst hT4
    have tp:=hp.keepB x1 h3
    have yK:=x1 y _ (by simpa using ydy) h2
    refine xA4_2 (id tp) ?_;intro px Lc Ls fs q1 q2 q3
    have hdec:∃ s l,Dec ns W p' s l /\ ((p' < l /\ outR rest' ct = []) ∨ (l <= p' /\ ∃ r2,rest' = s :: r2 /\ Run ns W (p' - l) r2 ct)):=by
      cases f1 with
      | done =>
        refine xA2_0 (dec_ex hw W 0) ?_;intro s l h
        exact (xI2_1 s l h (.inl ⟨h.1,rfl⟩))
      | cut g1 g2 g3 => exact (xI2_1 _ _ g2 (.inl ⟨g3,rfl⟩))
      | step g1 g2 g3 g4 => exact (xI2_1 _ _ g2 (.inr ⟨g3,(xI1_1 _ rfl g4)⟩))
    refine xA2_1 hdec ?_;(try clear hdec);intro s l hd hor
    have hsl:=(dec_sym hd).1
    refine xA2_3 (read_pre hw hd f3) ?_;intro j Y hY hj hYl hbit
    have at1:∀ {m:MO} {H':MH},Ext (upd HK dy m) H' -> ∀ b' mo,b' ≠ dy -> HK b' = some mo -> H' b' = some mo:=fun E b' mo hb e=>E b' mo (by rw [upd_ne _ _ hb];exact e)
    refine ⟨(xI3_3 r px _ rfl q1 q2 rfl),⟨ r,ns.reverse,y,dy,b,pos',l,j,ns.length - 1 - s,Y,p',rfl,tp,hwr,by rw [List.length_reverse];exact hl,⟨yK,f4⟩,h4,h5,hd.1,hd.2.1,hj,hY,hYl,f3.1,hbit,fun hle H' E=>?_,fun hlt H' E=>?_⟩⟩
    · have fF:=at1 E F _ Fdy f5
      rcases hor with ⟨g,_⟩ | ⟨g1,r2,rfl,g3⟩
      · omega
      · have hv:((ns.length:Int) - 1 - ((ns.length - 1 - s:Nat):Int)) = (s:Nat):=by exact oA198 hsl
        rw [List.length_cons] at f2 f8
        refine ⟨(xI2_1 F _ rfl fF),onList_of fF (xI0_2 (by rw [natV_len];exact oA106 f7) rfl (hK _ _ ⟨?_,(xI6_8 (p' - l) (pos' + l) (done ++ [s]) r2 v _ g3 ?_ (f3.next g1 g1) ?_ ?_ ?_ ?_ ?_ rfl)⟩))⟩
        · intro b' mo hbd e
          rw [upd_ne _ _ (ne_of_none e hF)]
          exact at1 E b' mo (by simpa using hbd) (x1 b' mo hbd e)
        · rw [List.length_cons] at f2;exact oA179 f2
        · rw [upd_ne _ _ Fdy.symm];exact E dy _ (upd_self _ _ _)
        · rw [upd_self,natV_app]
          show _ = some (MO.list (natV done ++ [V.int (s:Nat)]))
          rw [<- hv]
        · rw [<- f6,out_step g3];simp
        · rw [List.length_append];simp;exact oA170 f8
        · rw [List.length_append];simp;lia
    · rcases hor with ⟨g,g2⟩ | ⟨g1,r2,rfl,g3⟩
      · have hres:Q (.ref F) H':=h8 F H' (by rw [<- f6,g2,List.append_nil];exact at1 E F _ Fdy f5) (fun b' mo hbd e=>at1 E b' mo (by simpa using hbd) (x1 b' mo hbd e))
        exact (xI0_2 FX.in_CutShort (fun zz=>(xI1_2 _ rfl V.noConfusion hres)) (fun q=>(q rfl).elim))
      · lia
end
noncomputable def FnNm (G:Gl) (x:Str) (n:Nat) (w:List V -> WV):Prop:=∃ fa,G.mg x = some (.ref fa) /\ keepIn G.K (.ref fa) = true /\ FnN G n (.ref fa) w
section
variable {G:Gl} {c:Cx} {n:Nat}
theorem nr_fn (GO:GlOk G) {x:Str} {m:Nat} {w:List V -> WV} {l:WL} {np pos:Pos} {es:List Expr} (K:FnNm G x m w) (C:CxOk G c) (hm:m <= n) (hl:SEs G c n es l) (hk:c.env.kindOf x = some .globalImplicit:=by rfl) (hd:(x == ("__debug__" : Str)) = false:=by decide)
    (hp:PlainArgs es:=by intro _ _;exact ⟨rfl,_,_,rfl⟩):NE G c n (.Call (.Name x np) es [] pos) (wCall w l):=by
  refine xA1_2 K ?_;(try clear K);intro fa h1 h2 h3
  exact nr_call GO (r_glob GO C h1 hk hd) (.ref fa h2) (h3.call hm C) hl hp
theorem Glob.fnN {x:Str} {i:Nat} {n:Nat} {w:List V -> WV} (g:Glob G x i) (h:∀ fa,Def G (topFn i) fa x x -> FnN G n (.ref fa) w):FnNm G x n w:=by
  refine xA1_2 g ?_;(try clear g);intro fa h1 h2 h3
  exact (xI1_2 fa h1 h2 (h fa h3))
inductive decodeC (args:List V) (Q:QV) (X:XP) (H:MH):Prop
  | mk (x ns) (data : List Nat) (p : Nat) (rest ct) (o1 : args = [.ref x,.bytes data,.int (rest.length : Nat)]) (o2 : HTat H x ns) (o3 : whole ns) (o4 : ns.length <= 60) (o5 : ∀ x ∈ data,x < 256) (o6 : data.length <= 100000) (o7 : ∃ v,data.getLast? = some v /\ 0 < v) (o8 : 2 ^ p <= leVal data) (o9 : leVal data < 2 ^ (p + 1)) (o10 : p <= 1000) (o11 : p <= 8 * data.length) (o12 : Run ns (leVal data) p rest ct) (o13 : ct = false -> ∀ H',Ext H H' -> Q (.bytes rest) H') (o14 : ct = true -> ∀ H',Ext H H' -> X NN.CS H')
set_option maxHeartbeats 600000 in
theorem decode' (FX:Facts G):FnNm G "decode_stream" 8 decodeC:=FX.decode_stream.fnN fun fa F=>by
  refine xA5_0 F ?_;(try clear F);intro doc pm an cdv ct F
  have GO:=FX.go
  have NB:=FX.nb
  have h_exc:=exc_init FX
  have h_BackReader:=brclass' FX
  have h_HT_read:=htread' FX
  have h_BR_left:=brleft' FX
  refine n_fn (wb:=_) (names:=["table", "octets", "count", "back", "found", "turn"]) (k:=3) (m:=3) (n:=7) GO F (by decide +kernel) (by decide) rfl (by decide +kernel) ?_ (fun L st C=>(nb_cons (ns_of (s_asg C 3 (r_fn GO h_BackReader C (by decide) (l_cons (r_loc C 1) l_nil))))
      (nb_cons (n_asg C 4 (nr_call0 GO (r_blt GO C (v:=.type "bytearray") (NB _ (by decide)) rfl) (.type _) ba_call))
      (nb_cons (n_for C rfl (it_range1 GO (r_blt GO C (v:=.type "range") (NB _ (by decide)) rfl) (l_cons (r_loc C 2) l_nil)) (k_range C (a_loc C 5)) (nb_cons (n_expr (nr_meth GO (ba_meth C) (r_loc C 4) (l_cons (r_meth GO (own_m GO C h_HT_read (by decide)) (r_loc C 0) (l_cons (r_loc C 3) l_nil)) l_nil)) rfl)
      (nb_one (ns_of (s_if (t_cmp1 o_lt (r_meth0 GO (own_m GO C h_BR_left (by decide)) (r_loc C 3)) r_int) (b_one (s_raise GO C FX.exc (FX.in_CutShort) h_exc (by decide) (r_glob GO C FX.v_CutShort) (l_cons r_str l_nil))) b_nil)))))
      (nb_cons (ns_of (s_if (t_cmp1 o_ne (r_meth0 GO (own_m GO C h_BR_left (by decide)) (r_loc C 3)) r_int) (b_one s_never) b_nil))
      (nb_one (ns_of (s_ret (r_call GO (r_blt GO C (v:=.type "bytes") (NB _ (by decide)) rfl) (.type _) bytes_ok (l_cons (r_loc C 4) l_nil))))))))))
  rintro s args Q X H hb ⟨x,ns,data,p,rest,ct,h1,ht,hw,hl,h2,h3,h4,h5,h6,h7,h7',h8,h9,h10⟩
  refine xA3_3 (map3 h1) ?_;intro u1 u2 u3 hT1;subst hT1;intro e1 e2 e3
  refine (xI1_2 [u1,u2,u3] rfl (.of_eq (by rfl)) ?_)
  show fnW _ 3 [er u1,er u2,er u3] Q X H
  rw [e1,e2,e3]
  refine ⟨data,p,rfl,h2,h3,h4,h5,h6,fun y dy H1 hy hdy hbr E1=>⟨rfl,fun Fd hF=>iR_up (by have:=run_len h8;lia) ?_⟩⟩
  have hn0:((rest.length:Int) - 0).toNat = rest.length:=by exact oA43
  rw [hn0]
  refine xA0_1 hbr ?_;(try clear hbr);intro g1 g2
  have ydy:y ≠ dy:=ne_of_mo g1 g2 (by intro q;cases q)
  have Fdy:Fd ≠ dy:=(ne_of_none g2 hF).symm
  have Fy:Fd ≠ y:=(ne_of_none g1 hF).symm
  have Fn:H Fd = none:=none_keep E1 hF
  refine forW_inv (fun xs ls HK=>Ext H HK /\ ∃ (p':Nat) (done rest':List Nat) (y5:V),Run ns (leVal data) p' rest' ct /\ p' <= p /\ xs.length = rest'.length /\ BRat HK y dy data p' /\ HK Fd = some (.barr done) /\ done ++ rest' = rest /\ ls = [.ref x,.bytes data,.int (rest.length:Nat),.ref y,.ref Fd,y5]) ?_ ?_ ?_ _ _ _ ⟨E1.trans (Ext.new hF),⟨ p,[],rest,.unb,h8,Nat.le_refl _,by rw [rangeL_len],⟨alloc_keep hF g1,alloc_keep hF g2⟩,upd_self _ _ _,rfl,rfl⟩⟩
  · intros;trivial
  · intro ls HK hT1;refine xA0_1 hT1 ?_;(try clear hT1);intro E hT2;refine xA4_0 hT2 ?_;(try clear hT2);intro p' done rest' y5 hT3;refine xA0_6 hT3 ?_;(try clear hT3);intro f1 f1' f2 f3 f4 f5 hT4;subst hT4
    have hr:rest' = []:=List.length_eq_zero_iff.mp f2.symm
    subst hr
    rw [List.append_nil] at f5
    subst f5
    cases f1
    have hlen:=run_len h8
    refine xA0_1 f3 ?_;(try clear f3);intro b1 b2
    exact ⟨(xI3_3 y dy _ rfl b1 b2 rfl),⟨ y,dy,data,0,rfl,⟨b1,b2⟩,fun q=>(q rfl).elim,fun zz=>onLB_ofB f4 ⟨by lia,h9 rfl _ E⟩⟩⟩
  · intro v xs ls HK K hT1 hK;refine xA0_1 hT1 ?_;(try clear hT1);intro E hT2;refine xA4_0 hT2 ?_;(try clear hT2);intro p' done rest' y5 hT3;refine xA0_6 hT3 ?_;(try clear hT3);intro f1 f1' f2 f3 f4 f5 hT4;subst hT4
    refine xA0_1 f3 ?_;(try clear f3);intro b1 b2
    have tk:=ht.keep E
    refine xA7_2 (id tk) ?_;intro tx Ll Lg Lc tts mm kk q1 q2 q3
    have hdec:∃ s l,Dec ns (leVal data) p' s l /\ ((p' < l /\ ct = true /\ ∃ r2,rest' = s :: r2) ∨ (l <= p' /\ ∃ r2,rest' = s :: r2 /\ Run ns (leVal data) (p' - l) r2 ct)):=by
      cases f1 with
      | done => cases f2
      | cut g1 g2 g3 => exact (xI2_1 _ _ g2 (.inl (xI0_2 g3 rfl ⟨ _,rfl⟩)))
      | step g1 g2 g3 g4 => exact (xI2_1 _ _ g2 (.inr ⟨g3,(xI1_1 _ rfl g4)⟩))
    refine xA2_1 hdec ?_;(try clear hdec);intro s l hd hor
    have hsl:=(dec_sym hd).1
    refine xA0_2 (id hd) ?_;intro d1 d2 hT1;refine xA1_1 hT1 ?_;(try clear hT1);intro j d3 d4
    have at1:∀ {m:MO} {H':MH},Ext (upd HK dy m) H' -> ∀ b' mo,b' ≠ dy -> HK b' = some mo -> H' b' = some mo:=fun E b' mo hb e=>E b' mo (by rw [upd_ne _ _ hb];exact e)
    refine (xI0_2 (xI2_1 Fd _ rfl f4) (xI3_3 x tx _ rfl q1 q2 rfl) ⟨ x,ns,y,dy,data,p',l,j,s,rfl,tk,hw,hl,⟨b1,b2⟩,h2,h3,by exact oA321 h7' f1',d1,d3,d2,d4,fun H' E'=>?_⟩)
    have fF:=at1 E' Fd _ Fdy f4
    have fy:=at1 E' y _ ydy b1
    have fd:=E' dy _ (upd_self _ _ _)
    have hdl:done.length <= 1000:=by
      have:=run_len h8
      rw [<- f5,List.length_append] at this;lia
    have E2:∀ m,Ext H (upd H' Fd m):=fun m b' mo e=>by
      rw [upd_ne _ _ (ne_of_none e Fn)]
      exact at1 E' b' mo (ne_of_none e hdy) (E b' mo e)
    have y2:∀ m,upd H' Fd m y = some (.inst NN.BR dy):=fun m=>by rw [upd_ne _ _ Fy.symm];exact fy
    have dy2:∀ m,upd H' Fd m dy = some (brAttrs data ((p':Int) - l)):=fun m=>by rw [upd_ne _ _ Fdy.symm];exact fd
    refine onBarr_of fF (xI0_3 (xI0_2 (by exact oA63) (by lia) (by exact oA106 hdl)) rfl (xI3_3 y dy _ rfl (y2 _) (dy2 _) rfl) ⟨ y,dy,data,(p':Int) - l,rfl,⟨y2 _,dy2 _⟩,fun q=>?_,fun q=>?_⟩)
    · rcases hor with ⟨g,g2,_⟩ | ⟨g,_⟩
      · exact ⟨rfl,h10 g2 _ (E2 _)⟩
      · lia
    · rcases hor with ⟨g,g2,_⟩ | ⟨g,r2,rfl,g3⟩
      · lia
      · have ep:((p':Int) - l) = ((p' - l:Nat):Int):=by lia
        refine hK _ _ ⟨E2 _,⟨ p' - l,done ++ [s],r2,v,g3,by exact oA323 f1' d1 d2 ep,by simpa using f2,⟨y2 _,by rw [<- ep];exact dy2 _⟩,upd_self _ _ _,by rw [<- f5];simp,rfl⟩⟩
inductive decodedC (args:List V) (Q:QV) (X:XP) (H:MH):Prop
  | mk (x ns) (data : List Nat) (p : Nat) (rest ct) (o1 : args = [.ref x,.bytes data,.int (rest.length : Nat)]) (o2 : HTat H x ns) (o3 : whole ns) (o4 : ns.length <= 60) (o5 : ∀ x ∈ data,x < 256) (o6 : data.length <= 100000) (o7 : ∃ v,data.getLast? = some v /\ 0 < v) (o8 : 2 ^ p <= leVal data) (o9 : leVal data < 2 ^ (p + 1)) (o10 : p <= 1000) (o11 : p <= 8 * data.length) (o12 : Run ns (leVal data) p rest ct) (o13 : ∀ H',Ext H H' -> Q (if ct = true then .none else .bytes rest) H')
theorem decoded' (FX:Facts G):FnNm G "_law_decoded" 9 decodedC:=FX.lw_decoded.fnN fun fa F=>by
  refine xA5_0 F ?_;(try clear F);intro doc pm an cdv ct F
  have GO:=FX.go
  have NB:=FX.nb
  have h_decode_stream:=decode' FX
  refine n_fn (wb:=_) (names:=["table", "data", "many"]) (k:=3) (m:=0) (n:=8) GO F (by decide +kernel) (by decide) rfl (by decide +kernel) ?_ (fun L st C=>(nb_one (n_try C rfl (nx_ret (nr_fn GO h_decode_stream C (by decide) (l_cons (r_loc C 0) (l_cons (r_loc C 1) (l_cons (r_loc C 2) l_nil))))) (h_cons GO C FX.exc FX.in_CutShort (List.nodup_cons.mp FX.nd).1 FX.v_CutShort q_none h_end))))
  rintro s args Q X H hb ⟨x,ns,data,p,rest,ct,h1,ht,hw,hl,h2,h3,h4,h5,h6,h7,h7',h8,h9⟩
  refine xA3_3 (map3 h1) ?_;intro u1 u2 u3 hT1;subst hT1;intro e1 e2 e3
  refine (xI1_2 [u1,u2,u3] rfl (.of_eq (by rfl)) ?_)
  show fnW _ 0 [er u1,er u2,er u3] Q X H
  rw [e1,e2,e3]
  refine ⟨x,ns,data,p,rest,ct,rfl,ht,hw,hl,h2,h3,h4,h5,h6,h7,h7',h8,fun q H' E=>?_,fun q H' E=>?_⟩
  · have:=h9 H' E
    rw [q] at this
    exact this
  · have:=h9 H' E
    rw [if_pos q] at this
    exact (xI0_2 FX.in_CutShort (fun zz=>this) (fun q=>(q rfl).elim))
end
theorem natV_get {l:List Nat} {i v:Nat} (h:l[i]? = some v):(natV l)[i]? = some (.int (v:Nat)):=by
  unfold natV;rw [List.getElem?_map,h];rfl
theorem natV_ints (l:List Nat):natV l = (l.map fun x=>((x:Nat):Int)).map V.int:=by unfold natV;rw [List.map_map];rfl
theorem ints_nat (l:List Nat):(l.map fun x=>((x:Nat):Int)).map Int.toNat = l:=by
  rw [List.map_map]
  exact List.map_id' l |>.symm ▸ (List.map_congr_left fun x zz=>rfl)
theorem ints_sum:∀ l:List Nat,(l.map fun x=>((x:Nat):Int)).sum = ((l.sum:Nat):Int)
  | [] => rfl
  | x :: r => by rw [List.map_cons,List.sum_cons,List.sum_cons,ints_sum r];lia
theorem powN (a k:Nat):((a:Int) ^ k) = ((a ^ k:Nat):Int):=by simp
theorem natV_over (spare:Nat) (bits:List Nat):List.replicate spare (V.int 0) ++ natV (bits.map fun b=>1 - b) = natV (overL spare bits):=by
  unfold overL
  rw [natV_app]
  congr 1
  unfold natV;rw [List.map_replicate];rfl
theorem overL_len (spare:Nat) (bits:List Nat):(overL spare bits).length = spare + bits.length:=by unfold overL;simp
theorem natV_take (l:List Nat) (k:Nat):(natV l).take k = natV (l.take k):=by unfold natV;rw [List.map_take]
theorem seqEq_nat (H:MH) (l:List Nat):seqEq H (natV l) (natV l):=⟨rfl,fun i x y hx hy=>by
  rw [hx] at hy
  injection hy with hy
  subst hy
  unfold natV at hx
  rw [List.getElem?_map] at hx
  refine xA1_1 (Option.map_eq_some_iff.mp hx) ?_;intro v _ hT1;subst hT1
  rfl⟩
theorem wCmp_join {f:Int -> Int -> Prop} {a b:Int} {Q:QV} {X:XP} {H:MH} [Decidable (f a b)] (h:∀ z:Bool,(z = true ↔ f a b) -> Q (.bool z) H):wCmp f (.int a) (.int b) Q X H :=
  ⟨fun q=>h true ⟨fun zz=>q,fun zz=>rfl⟩,fun q=>h false ⟨(fun z=>nomatch z),fun z=>(q z).elim⟩⟩
section
variable {G:Gl} {c:Cx} {n:Nat}
inductive readrightC (args:List V) (Q:QV) (X:XP) (H:MH):Prop
  | mk (a Sy Bi ns) (syms extra : List Nat) (o1 : args = [.ref a,.ref Sy,.ref Bi]) (o2 : H a = some (.list (ns.map .int))) (o3 : whole ns) (o4 : 2 <= ns.length) (o5 : ns.length <= 15) (o6 : H Sy = some (.list (natV syms))) (o7 : H Bi = some (.list (natV (syms.flatMap (cw ns) ++ extra)))) (o8 : ∀ s ∈ syms,usedSym ns s) (o9 : syms.length <= 4) (o10 : extra.length <= 8) (o11 : ∀ x ∈ extra,x < 2) (o12 : ∀ H',Ext H H' -> Q (.bool true) H')
set_option maxHeartbeats 1000000 in
theorem readright' (FX:Facts G):FnNm G "_law_read_right" 13 readrightC:=FX.lw_read_right.fnN fun fa F=>by
  refine xA5_0 F ?_;(try clear F);intro doc pm an cdv ct F
  have GO:=FX.go
  have NB:=FX.nb
  have h_HuffTable:=ht' FX
  have h_PrefixReader:=pr' FX
  have h_BackReader:=brclass' FX
  have h_LowReader:=lrclass' FX
  have h_LR_skip:=lrskip' FX
  have h_LR_left:=lrleft' FX
  have h_BR_left:=brleft' FX
  have h_HT_read:=htread' FX
  have h_PR_read:=prread' FX
  have h__law_till_cut:=till' FX
  have h__law_decoded:=decoded' FX
  refine n_fnC (wb:=_) (names:=["row", "symbols", "bits", "table", "reader", "last", "spare", "whole", "bit", "data", "over", "octets", "back", "low", "found", "symbol", "other", "cut"]) (k:=3) (m:=15) (n:=12) GO F (by decide +kernel) rfl (by decide +kernel) (by decide +kernel) ?_ (fun L st C=>(nb_cons (ns_of (s_asgT (a_tup (.cons (a_loc C 3) (.cons (a_loc C 4) (.cons (a_loc C 5) (.cons (a_loc C 6) .nil)))) (by intro _;rfl) (aLocs_reach [3,4,5,6])) (r_tup (l_cons (r_fn GO h_HuffTable C (by decide) (l_cons (r_loc C 0) l_nil)) (l_cons (r_fn GO h_PrefixReader C (by decide) (l_cons (r_rev (r_loc C 0) (r_un o_neg r_int)) (l_cons r_int l_nil))) (l_cons (r_bin o_sub (r_call GO (r_blt GO C (v:=.builtin "len") (NB _ (by decide)) rfl) (.blt _) len_ok (l_cons (r_loc C 0) l_nil)) r_int) (l_cons (r_bin o_mod (r_un o_neg (r_call GO (r_blt GO C (v:=.builtin "len") (NB _ (by decide)) rfl) (.blt _) len_ok (l_cons (r_loc C 2) l_nil))) r_int) l_nil)))))))
      (nb_cons (ns_of (s_asgC C 7 r_int))
      (nb_cons (ns_of (s_for C rfl (it_list (r_loc C 2)) (k_list C (a_loc C 8)) (b_one (s_asgC C 7 (r_bin o_add (r_bin (o_mul C) r_int (r_cell C 7)) (r_loc C 8))))))
      (nb_cons (ns_of (s_asg C 9 (r_call GO (r_blt GO C (v:=.type "bytes") (NB _ (by decide)) rfl) (.type _) bytes_ok (l_cons (r_comp C (own:=["k"]) (fr:=[("whole",7)]) kind_range (it_range1 GO (r_blt GO C (v:=.type "range") (NB _ (by decide)) rfl) (l_cons (r_bin o_add (r_bin o_fdiv (r_call GO (r_blt GO C (v:=.builtin "len") (NB _ (by decide)) rfl) (.blt _) len_ok (l_cons (r_loc C 2) l_nil)) r_int) r_int) l_nil)) (fun zz C'=>(xI0_2 (k_range C' (a_loc C' 0)) ct_none (r_bin o_mod (r_bin o_fdiv (r_cell C' 1) (r_bin o_pow r_int (r_loc C' 0))) r_int))) ⟨by decide,by decide,(fun p hp=>by rcases List.mem_cons.mp hp with rfl | hp;exact (xI0_3 rfl (fun q=>by cases (show some NameKind.cell = some NameKind.local from q)) (by decide +kernel) (by decide +kernel));cases hp),kn_free (by rfl),by decide +kernel,rfl⟩) l_nil))))
      (nb_cons (ns_of (s_asgC C 10 (r_bin o_add (r_bin (o_mul C) (r_list (l_cons r_int l_nil)) (r_loc C 6)) (r_comp C (own:=["bit"]) (fr:=[]) kind_list (it_list (r_loc C 2)) (fun zz C'=>(xI0_2 (k_list C' (a_loc C' 0)) ct_none (r_bin o_sub r_int (r_loc C' 0)))) ⟨by decide,by decide,(fun p hp=>nomatch hp),kn_free (by rfl),by decide +kernel,rfl⟩))))
      (nb_cons (ns_of (s_asg C 11 (r_call GO (r_blt GO C (v:=.type "bytes") (NB _ (by decide)) rfl) (.type _) bytes_ok (l_cons (r_comp C (own:=["at"]) (fr:=[("over",10)]) kind_range (it_range1 GO (r_blt GO C (v:=.type "range") (NB _ (by decide)) rfl) (l_cons (r_bin o_fdiv (r_call GO (r_blt GO C (v:=.builtin "len") (NB _ (by decide)) rfl) (.blt _) len_ok (l_cons (r_cell C 10) l_nil)) r_int) l_nil)) (fun zz C'=>(xI0_2 (k_range C' (a_cell C' 0)) ct_none (r_call GO (r_blt GO C' (v:=.builtin "sum") (NB _ (by decide)) rfl) (.blt _) (sum_ok C') (l_cons (r_comp C' (own:=["k"]) (fr:=[("over",1),("at",0)]) kind_range (it_range1 GO (r_blt GO C' (v:=.type "range") (NB _ (by decide)) rfl) (l_cons r_int l_nil)) (fun zz C''=>(xI0_2 (k_range C'' (a_loc C'' 0)) ct_none (r_bin (o_mul C'') (r_item gi_ok (r_cell C'' 1) (r_bin o_add (r_bin (o_mul C'') r_int (r_cell C'' 2)) (r_loc C'' 0))) (r_bin o_pow r_int (r_loc C'' 0))))) ⟨by decide,by decide,(fun p hp=>by rcases List.mem_cons.mp hp with rfl | hp;exact (xI0_3 rfl (fun q=>by cases (show some NameKind.cell = some NameKind.local from q)) (by decide +kernel) (by decide +kernel));rcases List.mem_cons.mp hp with rfl | hp;exact (xI0_3 rfl (fun q=>by cases (show some NameKind.cell = some NameKind.local from q)) (by decide +kernel) (by decide +kernel));cases hp),kn_free (by rfl),by decide +kernel,rfl⟩) l_nil)))) ⟨by decide,by decide,(fun p hp=>by rcases List.mem_cons.mp hp with rfl | hp;exact (xI0_3 rfl (fun q=>by cases (show some NameKind.cell = some NameKind.local from q)) (by decide +kernel) (by decide +kernel));cases hp),kn_free (by rfl),by decide +kernel,rfl⟩) l_nil))))
      (nb_cons (ns_of (s_asgSw C (.cons (i:=12) rfl rfl (.cons (i:=13) rfl rfl (.cons (i:=14) rfl rfl .nil))) (r_tup (l_cons (r_fn GO h_BackReader C (by decide) (l_cons (r_loc C 9) l_nil)) (l_cons (r_fn GO h_LowReader C (by decide) (l_cons (r_bin o_add (r_loc C 11) (r_call GO (r_blt GO C (v:=.type "bytes") (NB _ (by decide)) rfl) (.type _) bytes_ok (l_cons (r_list (l_cons r_int (l_cons r_int l_nil))) l_nil))) l_nil)) (l_cons (r_list l_nil) l_nil))))))
      (nb_cons (ns_of (s_expr (r_meth GO (own_m GO C h_LR_skip (by decide)) (r_loc C 13) (l_cons (r_loc C 6) l_nil)) rfl))
      (nb_cons (ns_of (s_while C rfl (t_cmp1 o_gt (r_meth0 GO (own_m GO C h_BR_left (by decide)) (r_loc C 12)) r_int) (b_cons (s_asg C 15 (r_meth GO (own_m GO C h_HT_read (by decide)) (r_loc C 3) (l_cons (r_loc C 12) l_nil)))
      (b_cons (s_asg C 16 (r_meth GO (own_m GO C h_PR_read (by decide)) (r_loc C 4) (l_cons (r_loc C 13) l_nil)))
      (b_cons (s_if (t_bool (t_or1 (t_cmp1 o_ne (r_bin o_add (r_loc C 15) (r_loc C 16)) (r_loc C 5)) (t_or1 (t_cmp1 o_ne (r_bin o_sub (r_meth0 GO (own_m GO C h_LR_left (by decide)) (r_loc C 13)) r_int) (r_meth0 GO (own_m GO C h_BR_left (by decide)) (r_loc C 12))) t_or0))) (b_one (s_ret r_bool)) b_nil)
      (b_one (s_expr (r_meth GO (m_append C) (r_loc C 14) (l_cons (r_loc C 15) l_nil)) rfl)))))))
      (nb_cons (ns_of (s_asg C 17 (r_call GO (r_blt GO C (v:=.type "int") (NB _ (by decide)) rfl) (.type _) int_ok (l_cons (r_cmp1 o_lt (r_meth0 GO (own_m GO C h_BR_left (by decide)) (r_loc C 12)) r_int) l_nil))))
      (nb_cons (ns_of (s_if (t_cmp1 o_ne (r_upto (r_loc C 14) (r_call GO (r_blt GO C (v:=.builtin "len") (NB _ (by decide)) rfl) (.blt _) len_ok (l_cons (r_loc C 1) l_nil))) (r_loc C 1)) (b_one (s_ret r_bool)) b_nil))
      (nb_cons (ns_of (s_asg C 13 (r_fn GO h_LowReader C (by decide) (l_cons (r_loc C 11) l_nil))))
      (nb_cons (ns_of (s_expr (r_meth GO (own_m GO C h_LR_skip (by decide)) (r_loc C 13) (l_cons (r_loc C 6) l_nil)) rfl))
      (nb_cons (ns_of (s_if (t_cmp1 o_ne (r_fn GO h__law_till_cut C (by decide) (l_cons (r_loc C 4) (l_cons (r_loc C 13) (l_cons (r_loc C 5) (l_cons (r_bin o_add (r_call GO (r_blt GO C (v:=.builtin "len") (NB _ (by decide)) rfl) (.blt _) len_ok (l_cons (r_loc C 14) l_nil)) r_int) l_nil))))) (r_upto (r_loc C 14) (r_bin o_sub (r_call GO (r_blt GO C (v:=.builtin "len") (NB _ (by decide)) rfl) (.blt _) len_ok (l_cons (r_loc C 14) l_nil)) (r_loc C 17)))) (b_one (s_ret r_bool)) b_nil))
      (nb_one (n_ret (n_cmpL o_eq (nr_fn GO h__law_decoded C (by decide) (l_cons (r_loc C 3) (l_cons (r_loc C 9) (l_cons (r_call GO (r_blt GO C (v:=.builtin "len") (NB _ (by decide)) rfl) (.blt _) len_ok (l_cons (r_loc C 14) l_nil)) l_nil)))) (r_ifexp (t_val (r_loc C 17)) r_none (r_call GO (r_blt GO C (v:=.type "bytes") (NB _ (by decide)) rfl) (.type _) bytes_ok (l_cons (r_loc C 14) l_nil)))))))))))))))))))))
  rintro args Q X H ⟨a,Sy,Bi,ns,syms,extra,h1,h2,hw,hl2,hl,h3,h4,h5,h6,h7,h8,h9⟩
  refine xA3_3 (map3 h1) ?_;intro u1 u2 u3 hT1;subst hT1;intro e1 e2 e3
  refine (xI1_2 [u1,u2,u3] rfl (by rfl) ?_)
  show fnW _ 15 [er u1,er u2,er u3] Q X H
  rw [e1,e2,e3]
  have hsm:∀ k ∈ ns,small k:=fun k hk=>by have:=hw.1 k hk;exact ⟨by exact oA27 this,by exact oA28 this⟩
  have hsm':∀ k ∈ ns.reverse,small k:=fun k hk=>hsm k (List.mem_reverse.mp hk)
  refine xA1_0 (⟨_,rfl⟩:∃ bits,bits = syms.flatMap (cw ns) ++ extra) ?_;intro bits hbits
  rw [<- hbits] at h4
  have hb2:∀ b ∈ bits,b < 2:=fun b hb=>by
    rw [hbits] at hb
    rcases List.mem_append.mp hb with hb | hb
    · exact flat_lt ns syms b hb
    · exact h8 b hb
  have hbl:bits.length <= 52:=by
    have:=flat_len hw syms
    rw [hbits,List.length_append];exact oA317 h6 h7 this
  have lm:(ns.map V.int).length = ns.length:=List.length_map _
  refine ⟨a,ns,rfl,h2,by exact oA114 hl,hsm,fun zz x H1 zz hto E1=>?_,fun nw=>(nw hw).elim⟩
  refine ⟨rfl,onList_of (E1 _ _ h2) ⟨by rw [lm];exact oA112 hl,fun Dr hDr=>⟨Dr,ns.reverse,rfl,by rw [upd_self,List.map_reverse],by rw [List.length_reverse];exact oA114 hl,hsm',fun zz r H2 zz hp E2'=>?_,fun nw=>(nw ((whole_rev ns).mpr hw)).elim⟩⟩⟩
  have E12:=(Ext.new hDr).trans E2'
  have E2:=E1.trans E12
  have ht:=hto.at.keep E12
  refine onList_of (E2 _ _ h2) ⟨by rw [lm];exact oA112 hl,onList_of (E2 _ _ h4) (xI0_3 (by rw [natV_len];exact oA123 hbl) (by decide) (Nat.le_of_ble_eq_true rfl) (fun T hT=>onTup_of (upd_self _ _ _) ?_))⟩
  rw [lm,natV_len]
  refine xA1_0 (⟨_,rfl⟩:∃ H3,H3 = upd H2 T (.tup [.ref x,.ref r,.int ((ns.length:Int) - 1),.int ((-(bits.length:Int)).fmod 8)])) ?_;intro H3 hH3
  rw [<- hH3]
  have E23:Ext H2 H3:=by rw [hH3];exact Ext.new hT
  have E3:=E2.trans E23
  have ht3:=ht.keep E23
  have hp3:=hp.keep E23
  clear hH3 hT hDr E2'
  refine xA1_2 (?_:∃ spare:Nat,(-(bits.length:Int)).fmod 8 = spare /\ spare < 8 /\ ∃ q,spare + bits.length = 8 * q) ?_
  · refine (xI1_2 (((-(bits.length:Int)) % 8).toNat) ?_ (by lia) ⟨ ((((-(bits.length:Int)) % 8).toNat + bits.length) / 8),by lia⟩)
    rw [Int.fmod_eq_emod_of_nonneg _ (by decide)];lia
  intro spare hsp hsp8 hsq
  refine xA1_0 hsq ?_;(try clear hsq);intro q hsq
  rw [hsp]
  refine onList_of (E3 _ _ h4) ?_
  refine forW_inv (fun xs ls HK=>HK = H3 /\ ∃ (done rest:List Nat) (y8:V),bits = done ++ rest /\ xs = natV rest /\ ls = [.ref a,.ref Sy,.ref Bi,.ref x,.ref r,.int ((ns.length:Int) - 1),.int spare,.int (wnum done:Nat),y8,.unb,.unb,.unb,.unb,.unb,.unb,.unb,.unb,.unb]) ?_ ?_ ?_ _ _ _ ⟨rfl,(xI3_2 [] bits (.unb) rfl rfl rfl)⟩
  · intro xs ls HK hT1;refine xA0_1 hT1 ?_;(try clear hT1);intro hT2;subst hT2;intro _
    exact E3 _ _ h4
  · intro ls HK hT1;refine xA0_1 hT1 ?_;(try clear hT1);intro hT2;subst hT2;intro hT3;refine xA3_2 hT3 ?_;(try clear hT3);intro done rest y8 f1 f2 hT4;subst hT4
    have hr:rest = []:=List.map_eq_nil_iff.mp f2.symm
    subst hr
    rw [List.append_nil] at f1
    subst f1
    have B4:=E3 _ _ h4
    have e1:(bits.length:Int).fdiv 8 + 1 - 0 = ((bits.length / 8 + 1:Nat):Int):=by
      have:=fdivN bits.length 8
      rw [show ((8:Nat):Int) = 8 from rfl] at this
      rw [this];exact oA49
    have e1':(bits.length:Int).fdiv 8 + 1 = ((bits.length / 8 + 1:Nat):Int):=by exact oA3 e1
    refine onList_of B4 (xI0_2 (by rw [natV_len];exact oA123 hbl) (xI0_2 (by decide) (by decide) (by decide)) (iR_up (by rw [natV_len,e1'];lia) ?_))
    rw [natV_len,e1,Int.toNat_natCast]
    refine ⟨by rw [rangeL_len];exact oA121 hbl,compW_inv (fun xs acc ls HL=>HL = HK /\ ∃ (k:Nat) (y:V),k <= bits.length / 8 + 1 /\ xs = rangeL 1 (bits.length / 8 + 1 - k) (k:Int) /\ acc = natV (octs (wnum bits) k) /\ ls = [y,.int (wnum bits:Nat)]) ?_ ?_ ?_ _ _ _ _ ⟨rfl,(xI2_3 0 (.unb) (Nat.zero_le _) rfl rfl rfl)⟩⟩
    · intros;trivial
    · intro acc ls HL hT1 D hD;refine xA0_1 hT1 ?_;(try clear hT1);intro hT2;subst hT2;intro hT3;refine xA2_3 hT3 ?_;(try clear hT3);intro k y k1 k2 hT4;subst hT4;intro hT5;subst hT5
      have hk:k = bits.length / 8 + 1:=by
        have:=congrArg List.length k2
        rw [rangeL_len] at this
        simp at this;lia
      subst hk
      refine onLB_ofL (upd_self _ _ _) (xI1_3 _ (natV_ints _) ?_ (by rw [List.length_map,octs_len];exact oA121 hbl) ?_)
      · intro z hz
        refine xA1_1 (List.mem_map.mp hz) ?_;intro w hw' hT1;subst hT1
        have:=octs_lt _ _ w hw'
        exact oA93 this
      rw [ints_nat]
      refine xA0_1 (data_ok hb2) ?_;intro dv dl
      generalize hdata:octs (wnum bits) (bits.length / 8 + 1) = data at dv dl ⊢
      have dlt:∀ x ∈ data,x < 256:=by rw [<- hdata];exact octs_lt _ _
      have dlen:data.length = bits.length / 8 + 1:=by rw [<- hdata,octs_len]
      have E4:=E3.trans (Ext.new (m:=.list (natV data)) hD)
      have ht4:=ht3.keep (Ext.new (m:=.list (natV data)) hD)
      have hp4:=hp3.keep (Ext.new (m:=.list (natV data)) hD)
      generalize upd HL D (.list (natV data)) = H4 at E4 ht4 hp4 ⊢
      refine ⟨by decide,fun D0 hD0=>onList_of (upd_self _ _ _) ⟨⟨by exact oA63,by exact oA95 hsp8⟩,fun D1 hD1=>?_⟩⟩
      rw [Int.toNat_natCast]
      have E5:=E4.trans ((Ext.new (m:=.list [.int 0]) hD0).trans (Ext.new (m:=.list (List.replicate spare (V.int 0))) hD1))
      have ht5:=ht4.keep ((Ext.new (m:=.list [.int 0]) hD0).trans (Ext.new (m:=.list (List.replicate spare (V.int 0))) hD1))
      have hp5:=hp4.keep ((Ext.new (m:=.list [.int 0]) hD0).trans (Ext.new (m:=.list (List.replicate spare (V.int 0))) hD1))
      have r5:=upd_self (upd H4 D0 (.list [.int 0])) D1 (.list (List.replicate spare (V.int 0)))
      generalize upd (upd H4 D0 (.list [.int 0])) D1 (.list (List.replicate spare (V.int 0))) = H5 at E5 ht5 hp5 r5 ⊢
      refine onList_of (E5 _ _ h4) ⟨by rw [natV_len];exact oA123 hbl,compW_inv (fun xs acc ls HL=>HL = H5 /\ ∃ (done rest:List Nat) (y:V),bits = done ++ rest /\ xs = natV rest /\ acc = natV (done.map fun b=>1 - b) /\ ls = [y]) ?_ ?_ ?_ _ _ _ _ ⟨rfl,(xI3_3 [] bits (.unb) rfl rfl rfl rfl)⟩⟩
      · intro xs acc ls HL hT1;refine xA0_1 hT1 ?_;(try clear hT1);intro hT2;subst hT2;intro _
        exact E5 _ _ h4
      · intro acc ls HL hT1 D2 hD2;refine xA0_1 hT1 ?_;(try clear hT1);intro hT2;subst hT2;intro hT3;refine xA3_3 hT3 ?_;(try clear hT3);intro done rest y g1 g2 hT4;subst hT4;intro hT5;subst hT5
        have hr:rest = []:=List.map_eq_nil_iff.mp g2.symm
        subst hr
        rw [List.append_nil] at g1
        subst g1
        refine onList_of (alloc_keep hD2 r5) (onList_of (upd_self _ _ _) ⟨by rw [List.length_replicate,natV_len,List.length_map];exact oA239 hbl hsp8,fun Do hDo=>?_⟩)
        rw [natV_over]
        have E6:=E5.trans ((Ext.new (m:=.list (natV (bits.map fun b=>1 - b))) hD2).trans (Ext.new (m:=.list (natV (overL spare bits))) hDo))
        have ht6:=ht5.keep ((Ext.new (m:=.list (natV (bits.map fun b=>1 - b))) hD2).trans (Ext.new (m:=.list (natV (overL spare bits))) hDo))
        have hp6:=hp5.keep ((Ext.new (m:=.list (natV (bits.map fun b=>1 - b))) hD2).trans (Ext.new (m:=.list (natV (overL spare bits))) hDo))
        have o6:=upd_self (upd HL D2 (.list (natV (bits.map fun b=>1 - b)))) Do (.list (natV (overL spare bits)))
        generalize upd (upd HL D2 (.list (natV (bits.map fun b=>1 - b)))) Do (.list (natV (overL spare bits))) = H6 at E6 ht6 hp6 o6 ⊢
        have ol:(natV (overL spare bits)).length = 8 * q:=by rw [natV_len,overL_len,hsq]
        have e1:Int.fdiv ((8 * q:Nat):Int) 8 = (q:Nat):=by
          have:=fdivN (8 * q) 8
          rw [show ((8:Nat):Int) = 8 from rfl] at this
          rw [this];exact oA45
        have e2:((q:Int) - 0).toNat = q:=by exact oA5 e1
        refine onList_of o6 (xI0_2 (by rw [ol];exact oA276 hbl hsp8 hsq e1 e2) (xI0_2 (by decide) (by decide) (by decide)) (iR_up (by rw [ol,e1];omega) ?_))
        rw [ol,e1,e2]
        refine ⟨by rw [rangeL_len];exact oA278 hbl hsp8 hsq e1 e2,compW_inv (fun xs acc ls HM=>Ext H6 HM /\ ∃ (k:Nat) (y:V),k <= q /\ xs = rangeL 1 (q - k) (k:Int) /\ acc = natV (octL (overL spare bits) k) /\ ls = [y,.ref Do]) ?_ ?_ ?_ _ _ _ _ ⟨Ext.rfl,(xI2_3 0 (.unb) (Nat.zero_le _) rfl rfl rfl)⟩⟩
        · intros;trivial
        · intro acc ls HM hT1 D hD;refine xA0_1 hT1 ?_;(try clear hT1);intro F1 hT2;refine xA2_3 hT2 ?_;(try clear hT2);intro k y k1 k2 hT3;subst hT3;intro hT4;subst hT4
          have hk:k = q:=by
            have:=congrArg List.length k2
            rw [rangeL_len] at this
            simp at this;exact oA250 k1 this
          subst hk
          refine onLB_ofL (upd_self _ _ _) (xI1_3 _ (natV_ints _) ?_ (by rw [List.length_map,octL_len];exact oA278 hbl hsp8 hsq e1 e2) ?_)
          · intro z hz
            refine xA1_1 (List.mem_map.mp hz) ?_;intro w hw' hT1;subst hT1
            have:=octL_lt (overL_lt spare bits) k w hw'
            exact oA93 this
          rw [ints_nat]
          have E7:=(E6.trans F1).trans (Ext.new (m:=.list (natV (octL (overL spare bits) k))) hD)
          have ht7:=(ht6.keep F1).keep (Ext.new (m:=.list (natV (octL (overL spare bits) k))) hD)
          have hp7:=(hp6.keep F1).keep (Ext.new (m:=.list (natV (octL (overL spare bits) k))) hD)
          generalize upd HM D (.list (natV (octL (overL spare bits) k))) = H7 at E7 ht7 hp7 ⊢
          clear hD F1 o6
          have hpw:=wnum_ge bits
          have hpl:=wnum_lt hb2
          rw [<- dv] at hpw hpl
          refine ⟨data,bits.length,rfl,dlt,by exact oA240 hbl dlen,dl,hpw,hpl,fun y dy H8 hy hdy hbr E8=>⟨by decide,fun D9 hD9=>onLB_ofL (upd_self _ _ _) ⟨[255,255],rfl,by decide,by decide,?_,⟨ octL (overL spare bits) k ++ [255,255],rfl,by simp [octL_len];exact oA279 hbl hsp8 hsq e1 e2,fun z dz H9 hz hdz hlr E9=>⟨by decide,fun F hF=>⟨Nat.le_of_ble_eq_true rfl,fun T hT=>onTup_of (upd_self _ _ _) ⟨rfl,?_⟩⟩⟩⟩⟩⟩⟩
          · show (octL (overL spare bits) k).length + 2 <= 100000
            rw [octL_len];exact oA277 hbl hsp8 hsq e1 e2
          have hlow:=low_init hb2 (t:=[255,255]) (fun x hx=>by simpa using hx) hsq
          have olt:∀ x ∈ octL (overL spare bits) k ++ [255,255],x < 256:=fun x hx=>by
            rcases List.mem_append.mp hx with hx | hx
            · exact octL_lt (overL_lt spare bits) k x hx
            · simp at hx;exact oA100 hx
          have olen:(octL (overL spare bits) k ++ [255,255]).length = k + 2:=by simp [octL_len]
          have hlow0:=low_init hb2 (t:=[]) (fun x hx=>nomatch hx) hsq
          have olt0:∀ x ∈ octL (overL spare bits) k,x < 256:=octL_lt (overL_lt spare bits) k
          have olen0:(octL (overL spare bits) k).length = k:=octL_len _ _
          rw [List.append_nil] at hlow0
          rw [<- dv] at hlow hlow0
          refine xA2_0 (run_ex hw (leVal data) bits.length) ?_;intro all cu hrun
          have hall:∃ t,all = syms ++ t:=by
            refine laid_run hw h8 syms [] (c:=cu) h5 ?_
            rw [List.nil_append,<- hbits,<- dv];exact hrun
          have hrl:=run_len hrun
          have hrs:=run_sym hrun
          generalize octL (overL spare bits) k = oct at olt olen olt0 olen0 hlow hlow0 hlr ⊢
          generalize oct ++ [255,255] = oct2 at olt olen hlow hlr ⊢
          generalize hH10:upd (upd H9 F (.list [])) T (.tup [.ref y,.ref z,.ref F]) = H10
          have E89:Ext H8 H9:=(Ext.new hD9).trans E9
          have E910:Ext H9 H10:=by rw [<- hH10];exact (Ext.new hF).trans (Ext.new hT)
          have f10:H10 F = some (.list []):=by rw [<- hH10];exact alloc_keep hT (upd_self _ _ _)
          have hF7:H7 F = none:=none_keep (E8.trans E89) hF
          have hdz7:H7 dz = none:=none_keep E8 (none_keep (Ext.new hD9) hdz)
          have hdz8:H8 dz = none:=none_keep (Ext.new hD9) hdz
          refine xA0_1 hbr ?_;(try clear hbr);intro by1 by2
          refine xA0_1 hlr ?_;(try clear hlr);intro lz1 lz2
          have Fdy:F ≠ dy:=(ne_of_none (E89 _ _ by2) hF).symm
          have Fdz:F ≠ dz:=(ne_of_none lz2 hF).symm
          have Fy:F ≠ y:=(ne_of_none (E89 _ _ by1) hF).symm
          have Fz:F ≠ z:=(ne_of_none lz1 hF).symm
          have dydz:dy ≠ dz:=ne_of_none by2 hdz8
          have ydz:y ≠ dz:=ne_of_none by1 hdz8
          have ydy:y ≠ dy:=ne_of_mo by1 by2 (by intro q;cases q)
          have zdz:z ≠ dz:=ne_of_mo lz1 lz2 (by intro q;cases q)
          have zdy:z ≠ dy:=ne_of_mo lz1 (E89 _ _ by2) (by intro q;cases q)
          have y10:=E910 _ _ (E89 _ _ by1)
          have dy10:=E910 _ _ (E89 _ _ by2)
          have z10:=E910 _ _ lz1
          have dz10:=E910 _ _ lz2
          have E710:=(E8.trans E89).trans E910
          clear hH10 hT hF hdz hz hD9 hdz8 lz1 lz2 by1 by2
          refine ⟨(xI3_3 z dz _ rfl z10 dz10 rfl),⟨ z,dz,oct2,0,spare,rfl,⟨z10,dz10⟩,by exact oA274 hbl hsp8 hsq e1 e2 olen0 olen,by exact oA96 hsp8,fun zz=>⟨rfl,?_⟩,fun q=>by lia⟩⟩
          rw [Nat.zero_add]
          have E711:Ext H7 (upd H10 dz (lrAttrs oct2 (spare:Nat))):=fun b mo e=>by
            rw [upd_ne _ _ (ne_of_none e hdz7)];exact E710 b mo e
          refine while_inv (fun m ls HK=>Ext H7 HK /\ ∃ (pos:Int) (lp:Nat) (done rest:List Nat) (y15 y16:V),m = rest.length /\ HK y = some (.inst NN.BR dy) /\ HK dy = some (brAttrs data pos) /\ HK z = some (.inst NN.LR dz) /\ HK dz = some (lrAttrs oct2 (lp:Nat)) /\ (lp:Int) + pos + 16 = 8 * (oct2.length:Nat) /\ HK F = some (.list (natV done)) /\ done ++ rest = all /\ ((∃ p':Nat,pos = p' /\ p' <= bits.length /\ Run ns (leVal data) p' rest cu /\ lowOK oct2 (leVal data) p' lp (p' + 16)) ∨ (rest = [] /\ pos < 0 /\ cu = true)) /\ ls = [.ref a,.ref Sy,.ref Bi,.ref x,.ref r,.int ((ns.length:Int) - 1),.int spare,.int (wnum bits:Nat),y8,.bytes data,.ref Do,.bytes oct,.ref y,.ref z,.ref F,y15,y16,.unb]) (m:=all.length) ?_ ⟨E711,⟨ bits.length,spare,[],all,.unb,.unb,rfl,?_,?_,?_,upd_self _ _ _,?_,?_,rfl,.inl (xI1_3 bits.length rfl (Nat.le_refl _) hrun hlow),rfl⟩⟩
          · intro m ls HK K hT1 hK;refine xA0_1 hT1 ?_;(try clear hT1);intro E hT2;refine xA6_0 hT2 ?_;(try clear hT2);intro pos lp done rest y15 y16 hT3;refine xA0_9 hT3 ?_;(try clear hT3);intro hT4;subst hT4;intro b1 b2 b3 b4 b5 b6 b7 b8 hT5;subst hT5
            refine ⟨(xI3_3 y dy _ rfl b1 b2 rfl),⟨ y,dy,data,pos,rfl,⟨b1,b2⟩,fun hpos=>?_,fun hpos=>?_⟩⟩
            · have hex:∃ p':Nat,pos = p' /\ p' <= bits.length /\ Run ns (leVal data) p' rest cu /\ lowOK oct2 (leVal data) p' lp (p' + 16):=by
                rcases b8 with h | ⟨_,hneg,_⟩
                · exact h
                · omega
              refine xA1_0 hex ?_;(try clear hex);intro p' hT1;refine xA0_3 hT1 ?_;(try clear hT1);intro hT2;subst hT2;intro hp' hrun' hlo
              have hdec:∃ s l,Dec ns (leVal data) p' s l /\ ((p' < l /\ cu = true /\ rest = [s]) ∨ (l <= p' /\ ∃ r2,rest = s :: r2 /\ Run ns (leVal data) (p' - l) r2 cu)):=by
                cases hrun' with
                | done => lia
                | cut g1 g2 g3 => exact (xI2_1 _ _ g2 (.inl (xI0_2 g3 rfl rfl)))
                | step g1 g2 g3 g4 => exact (xI2_1 _ _ g2 (.inr ⟨g3,(xI1_1 _ rfl g4)⟩))
              refine xA2_1 hdec ?_;(try clear hdec);intro s l hd hor
              have hsl:=(dec_sym hd).1
              refine xA0_2 (id hd) ?_;intro d1 d2 hT1;refine xA1_1 hT1 ?_;(try clear hT1);intro j d3 d4
              refine xA2_3 (read_pre hw hd hlo) ?_;intro j2 Y hY hj2 hYl hbit
              have tk:=ht7.keep E
              refine xA7_2 (id tk) ?_;intro tx Ll Lg Lc tts mm kk q1 q2 q3
              refine ⟨(xI3_3 x tx _ rfl q1 q2 rfl),⟨ x,ns,y,dy,data,p',l,j,s,rfl,tk,hw,by exact oA114 hl,⟨b1,b2⟩,dlt,by exact oA240 hbl dlen,by exact oA330 dlen hsq e1 e2 olen0 olen hp',d1,d3,d2,d4,fun HA EA=>?_⟩⟩
              have EA7:Ext H7 HA:=fun b' mo e=>EA b' mo (by rw [upd_ne _ _ (ne_of_none e hdy)];exact E b' mo e)
              have tp:=hp7.keep EA7
              refine xA4_2 (id tp) ?_;intro px Lc' Ls fs w1 w2 w3
              have atA:∀ b' mo,b' ≠ dy -> HK b' = some mo -> HA b' = some mo:=fun b' mo hb e=>EA b' mo (by rw [upd_ne _ _ hb];exact e)
              have zA:=atA z _ zdy b3
              have dzA:=atA dz _ dydz.symm b4
              refine ⟨(xI3_3 r px _ rfl w1 w2 rfl),⟨ r,ns.reverse,z,dz,oct2,lp,l,j2,ns.length - 1 - s,Y,p' + 16,rfl,tp,(whole_rev ns).mpr hw,by rw [List.length_reverse];exact oA114 hl,⟨zA,dzA⟩,olt,by exact oA274 hbl hsp8 hsq e1 e2 olen0 olen,d1,d2,hj2,hY,hYl,hlo.1,hbit,fun hle HB EB=>?_,fun hlt=>by omega⟩⟩
              have atB:∀ b' mo,b' ≠ dz -> HA b' = some mo -> HB b' = some mo:=fun b' mo hb e=>EB b' mo (by rw [upd_ne _ _ hb];exact e)
              have yB:=atB y _ ydz (atA y _ ydy b1)
              have dyB:=atB dy _ dydz (EA dy _ (upd_self _ _ _))
              have zB:=atB z _ zdz zA
              have dzB:=EB dz _ (upd_self _ _ _)
              have fB:=atB F _ Fdz (atA F _ Fdy b6)
              have EB7:Ext H7 HB:=fun b' mo e=>atB b' mo (ne_of_none e hdz7) (EA7 b' mo e)
              refine ⟨fun qq=>(qq (by exact oA195 hsl)).elim,fun zz=>⟨(xI3_3 z dz _ rfl zB dzB rfl),⟨ z,dz,oct2,(lp + l:Nat),rfl,⟨zB,dzB⟩,(xI3_3 y dy _ rfl yB dyB rfl),y,dy,data,(p':Int) - l,rfl,⟨yB,dyB⟩,fun qq=>(qq (by exact oA331 b5)).elim,fun zz=>?_⟩⟩⟩
              have hdl:done.length <= 1000:=by rw [<- b7,List.length_append] at hrl;lia
              refine ⟨(xI2_1 F _ rfl fB),onList_of fB (xI0_2 (by rw [natV_len];exact Nat.le_trans hdl (by decide)) rfl ?_)⟩
              have fin:∀ r2,rest = s :: r2 -> ((∃ p2:Nat,(p':Int) - l = p2 /\ p2 <= bits.length /\ Run ns (leVal data) p2 r2 cu /\ lowOK oct2 (leVal data) p2 (lp + l) (p2 + 16)) ∨ (r2 = [] /\ (p':Int) - l < 0 /\ cu = true)) -> K [.ref a,.ref Sy,.ref Bi,.ref x,.ref r,.int ((ns.length:Int) - 1),.int spare,.int (wnum bits:Nat),y8,.bytes data,.ref Do,.bytes oct,.ref y,.ref z,.ref F,.int s,.int (ns.length - 1 - s:Nat),.unb] (upd HB F (.list (natV done ++ [.int s]))):=fun r2 hr2 hc=>by
                subst hr2
                refine hK r2.length _ _ (by simp) ⟨?_,⟨ (p':Int) - l,lp + l,done ++ [s],r2,_,_,rfl,?_,?_,?_,?_,by lia,?_,?_,hc,rfl⟩⟩
                · intro b' mo e
                  rw [upd_ne _ _ (ne_of_none e hF7)];exact EB7 b' mo e
                · rw [upd_ne _ _ Fy.symm];exact yB
                · rw [upd_ne _ _ Fdy.symm];exact dyB
                · rw [upd_ne _ _ Fz.symm];exact zB
                · rw [upd_ne _ _ Fdz.symm];exact dzB
                · rw [upd_self,natV_app];rfl
                · rw [<- b7];simp
              rcases hor with ⟨g,g2,g3⟩ | ⟨g,r2,g3,g4⟩
              · exact fin [] g3 (.inr (xI0_2 rfl (by exact oA196 g) g2))
              · refine fin r2 g3 (.inl (xI1_3 (p' - l) (by exact oA248 g) (by exact oA275 hsq e1 e2 olen0 olen hp' d1 d2 g) g4 ?_))
                have:=hlo.next g (show l <= p' + 16 by omega)
                rw [show p' + 16 - l = p' - l + 16 by exact oA259 g] at this
                exact this
            · have hend:rest = [] /\ ((pos = 0 /\ cu = false) ∨ (pos < 0 /\ cu = true)):=by
                rcases b8 with ⟨p',rfl,_,hr,_⟩ | ⟨h1,h2,h3⟩
                · have:p' = 0:=by omega
                  subst this
                  cases hr with
                  | done => exact ⟨rfl,.inl ⟨rfl,rfl⟩⟩
                  | cut g1 => lia
                  | step g1 => lia
                · exact ⟨h1,.inr ⟨h2,h3⟩⟩
              refine xA0_1 hend ?_;(try clear hend);intro hr0 hcu
              subst hr0
              rw [List.append_nil] at b7
              subst b7
              clear b8 b3 b4 b5
              refine ⟨(xI3_3 y dy _ rfl b1 b2 rfl),⟨ y,dy,data,pos,rfl,⟨b1,b2⟩,?_⟩⟩
              unfold wInt
              refine wCmp_join fun bb hbb=>?_
              refine xA1_1 (?_:∃ cv:Nat,(if bb then (1:Int) else 0) = cv /\ cv = (if cu = true then 1 else 0)) ?_
              · rcases hcu with ⟨rfl,rfl⟩ | ⟨h1,rfl⟩
                · have:bb = false:=Bool.eq_false_iff.mpr fun z=>absurd (hbb.mp z) (by decide)
                  subst this;exact (xI1_1 0 rfl rfl)
                · have:bb = true:=hbb.mpr h1
                  subst this;exact (xI1_1 1 rfl rfl)
              intro cv hcv hcv2
              have sK:=E _ _ (E7 _ _ h3)
              have dlen2:done.length <= 1000:=by lia
              refine onList_of sK (xI0_2 (by rw [natV_len];lia) (Int.natCast_nonneg _) (onList_of b6 ⟨by rw [natV_len];exact oA106 dlen2,fun D hD=>?_⟩))
              have ht1:List.take (((natV syms).length:Int)).toNat (natV done) = natV syms:=by
                refine xA1_0 hall ?_;(try clear hall);intro t ht
                rw [natV_len,Int.toNat_natCast,natV_take,ht,List.take_left]
              rw [ht1]
              refine onList_of (upd_self _ _ _) (onList_of (alloc_keep hD sK) ⟨seqEq_nat _ _,?_⟩)
              have EA:Ext H7 (upd HK D (.list (natV syms))):=E.trans (Ext.new hD)
              have fA:=alloc_keep (m:=.list (natV syms)) hD b6
              generalize upd HK D (.list (natV syms)) = HA at EA fA ⊢
              refine ⟨oct,rfl,by exact oA273 hbl hsp8 hsq e1 e2 olen0 olen,fun z2 dz2 HB hz2 hdz2 hlr2 EB=>?_⟩
              refine xA0_1 hlr2 ?_;(try clear hlr2);intro l1 l2
              refine ⟨(xI3_3 z2 dz2 _ rfl l1 l2 rfl),⟨ z2,dz2,oct,0,spare,rfl,⟨l1,l2⟩,by exact oA273 hbl hsp8 hsq e1 e2 olen0 olen,by exact oA96 hsp8,fun zz=>⟨rfl,?_⟩,fun q=>by lia⟩⟩
              rw [Nat.zero_add]
              have zd2:z2 ≠ dz2:=ne_of_mo l1 l2 (by intro q;cases q)
              have EC:Ext H7 (upd HB dz2 (lrAttrs oct (spare:Nat))):=fun b' mo e=>by
                have:=EA b' mo e
                rw [upd_ne _ _ (ne_of_none this hdz2)];exact EB b' mo this
              have fC:upd HB dz2 (lrAttrs oct (spare:Nat)) F = some (.list (natV done)):=by
                rw [upd_ne _ _ (ne_of_none fA hdz2)];exact EB _ _ fA
              have Fd2:F ≠ dz2:=ne_of_none fA hdz2
              have zC:upd HB dz2 (lrAttrs oct (spare:Nat)) z2 = some (.inst NN.LR dz2):=by rw [upd_ne _ _ zd2];exact l1
              have dC:=upd_self HB dz2 (lrAttrs oct (spare:Nat))
              have hd27:H7 dz2 = none:=none_keep EA hdz2
              generalize upd HB dz2 (lrAttrs oct (spare:Nat)) = HC at EC fC zC dC ⊢
              rw [List.length_nil,Nat.mul_zero,Nat.add_zero] at hlow0
              refine onList_of fC ⟨by rw [natV_len];exact oA106 dlen2,⟨ r,z2,dz2,oct,ns,leVal data,bits.length,spare,done,cu,by show [V.ref r,V.ref z2,V.int ((ns.length:Int) - 1),V.int (((natV done).length:Nat) + 1)] = _;rw [natV_len],hp7.keep EC,hw,by exact oA114 hl,⟨zC,dC⟩,olt0,by exact oA273 hbl hsp8 hsq e1 e2 olen0 olen,hlow0,by exact oA122 hbl,hrun,fun F2 HD f2 x2=>?_⟩⟩
              have fD:=x2 F _ (by simpa using Fd2) fC
              have ED:Ext H7 HD:=fun b' mo e=>x2 b' mo (by simpa using ne_of_none e hd27) (EC b' mo e)
              have hcl:cv <= done.length:=by
                rw [hcv2]
                split
                · rename_i h
                  rw [h] at hrun
                  exact run_cut_pos hrun
                · exact Nat.zero_le _
              have ht2:List.take (((natV done).length:Int) - (if bb then (1:Int) else 0)).toNat (natV done) = natV (outR done cu):=by
                have:((done.length:Int) - cv).toNat = done.length - cv:=by exact oA307 hcv2 hcl
                rw [natV_len,hcv,this,natV_take,hcv2]
                unfold outR
                split
                · rfl
                · rw [Nat.sub_zero,List.take_length]
              refine onList_of fD (xI0_2 (by rw [natV_len];exact oA106 dlen2) (by rw [natV_len,hcv];exact oA251 hcl) (onList_of fD ⟨by rw [natV_len];exact oA106 dlen2,fun D2 hD2=>?_⟩))
              rw [ht2]
              refine onList_of (alloc_keep hD2 f2) (onList_of (upd_self _ _ _) ⟨seqEq_nat _ _,?_⟩)
              have EE:=ED.trans (Ext.new (m:=.list (natV (outR done cu))) hD2)
              have fE:=alloc_keep (m:=.list (natV (outR done cu))) hD2 fD
              generalize upd HD D2 (.list (natV (outR done cu))) = HE at EE fE ⊢
              refine onList_of fE ⟨by rw [natV_len];exact oA106 dlen2,⟨ x,ns,data,bits.length,done,cu,by show [V.ref x,V.bytes data,V.int ((natV done).length:Nat)] = _;rw [natV_len],ht7.keep EE,hw,by exact oA114 hl,dlt,by exact oA240 hbl dlen,dl,hpw,hpl,by exact oA122 hbl,by lia,hrun,fun HG EG=>?_⟩⟩
              have hres:Q (.bool true) HG:=h9 HG (E7.trans (EE.trans EG))
              have fG:=EG _ _ fE
              rcases hcu with ⟨_,rfl⟩ | ⟨_,rfl⟩
              · have c0:cv = 0:=hcv2
                subst c0
                refine ⟨fun q=>(q hcv).elim,fun zz=>onLB_ofL fG (xI1_3 _ (natV_ints _) ?_ (by rw [List.length_map];exact oA106 dlen2) ?_)⟩
                · intro w hw'
                  refine xA1_1 (List.mem_map.mp hw') ?_;intro v hv hT1;subst hT1
                  have:=hrs v hv
                  exact oA235 hl this
                · rw [ints_nat];exact ⟨rfl,hres⟩
              · have c1:cv = 1:=hcv2
                subst c1
                exact ⟨fun zz=>⟨rfl,hres⟩,fun q=>(q (fun z=>by rw [hcv] at z;cases z)).elim⟩
          · rw [upd_ne _ _ ydz];exact y10
          · rw [upd_ne _ _ dydz];exact dy10
          · rw [upd_ne _ _ zdz];exact z10
          · exact oA338 hsq olen
          · rw [upd_ne _ _ Fdz];exact f10
        · intro v xs acc ls HM K hT1 hK;refine xA0_1 hT1 ?_;(try clear hT1);intro F1 hT2;refine xA2_3 hT2 ?_;(try clear hT2);intro k y k1 k2 hT3;subst hT3;intro hT4;subst hT4
          have hkd:k < q:=by
            rcases Nat.lt_or_ge k q with z | z
            · exact z
            · rw [show q - k = 0 by exact oA257 k1 z] at k2;cases k2
          rw [show q - k = (q - (k + 1)) + 1 by exact oA255 k1 hkd] at k2
          cases k2
          have o7:=F1 _ _ o6
          refine iR_up (by decide) ⟨by rw [rangeL_len];decide,?_⟩
          refine compW_inv (fun xs acc ls HN=>HN = HM /\ ∃ (j:Nat) (y:V),j <= 8 /\ xs = rangeL 1 (8 - j) (j:Int) /\ acc = natV ((List.range j).map fun t=>(overL spare bits).getD (8 * k + t) 0 * 2 ^ t) /\ ls = [y,.ref Do,.int (k:Nat)]) ?_ ?_ ?_ _ _ _ _ ⟨rfl,(xI2_3 0 (.unb) (Nat.zero_le _) rfl rfl rfl)⟩
          · intros;trivial
          · intro acc ls HN hT1 D hD;refine xA0_1 hT1 ?_;(try clear hT1);intro hT2;subst hT2;intro hT3;refine xA2_3 hT3 ?_;(try clear hT3);intro j y j1 j2 hT4;subst hT4;intro hT5;subst hT5
            have hj:j = 8:=by
              have:=congrArg List.length j2
              rw [rangeL_len] at this
              simp at this;exact oA126 j1 this
            subst hj
            refine (xI1_1 _ ((upd_self _ _ _).trans (congrArg (fun l=>some (MO.list l)) (natV_ints _))) ?_)
            dsimp only
            rw [ints_sum]
            refine hK _ _ _ ⟨F1.trans (Ext.new hD),(xI2_3 (k + 1) (.int k) hkd (by congr 1) ?_ rfl)⟩
            have:octL (overL spare bits) (k + 1) = octL (overL spare bits) k ++ [octV (overL spare bits) k]:=by unfold octL;rw [List.range_succ,List.map_append];rfl
            rw [this,natV_app];rfl
          · intro v xs acc ls HN K2 hT1 hK2;refine xA0_1 hT1 ?_;(try clear hT1);intro hT2;subst hT2;intro hT3;refine xA2_3 hT3 ?_;(try clear hT3);intro j y j1 j2 hT4;subst hT4;intro hT5;subst hT5
            have hjd:j < 8:=by
              rcases Nat.lt_or_ge j 8 with z | z
              · exact z
              · rw [show 8 - j = 0 by exact oA129 j1 z] at j2;cases j2
            rw [show 8 - j = (8 - (j + 1)) + 1 by exact oA128 j1 hjd] at j2
            cases j2
            have hlt:8 * k + j < (overL spare bits).length:=by rw [overL_len,hsq];exact oA301 hkd hjd
            refine xA1_0 (⟨_,List.getElem?_eq_getElem hlt⟩:∃ z,(overL spare bits)[8 * k + j]? = some z) ?_;intro z hz
            have hzd:(overL spare bits).getD (8 * k + j) 0 = z:=by rw [List.getD_eq_getElem?_getD,hz];rfl
            have hz2:z < 2:=by rw [<- hzd];exact overL_lt _ _ _
            have ei:(8 * (k:Int) + j).toNat = 8 * k + j:=by exact oA147
            refine ⟨.inl ⟨by decide,by decide⟩,onLD_ofL o7 ⟨⟨by exact oA160,by exact oA272 hbl hsp8 hsq e1 e2 hkd j1 hjd ei⟩,(xI1_2 (.int z) (by rw [ei];exact natV_get hz) (xI0_2 ⟨by decide,by decide⟩ (by exact oA63) (by lia)) ⟨ .inl ⟨by exact oA53,by lia⟩,?_⟩)⟩⟩
            have ep:(z:Int) * 2 ^ ((j:Int)).toNat = ((z * 2 ^ j:Nat):Int):=by rw [Int.toNat_natCast];simp
            rw [ep]
            refine hK2 _ _ _ ⟨rfl,(xI2_3 (j + 1) (.int j) hjd (by congr 1) ?_ rfl)⟩
            rw [List.range_succ,List.map_append,natV_app]
            show _ = _ ++ [V.int (((overL spare bits).getD (8 * k + j) 0 * 2 ^ j:Nat):Int)]
            rw [hzd]
      · intro v xs acc ls HL K hT1 hK;refine xA0_1 hT1 ?_;(try clear hT1);intro hT2;subst hT2;intro hT3;refine xA3_3 hT3 ?_;(try clear hT3);intro done rest y g1 g2 hT4;subst hT4;intro hT5;subst hT5
        cases rest with
        | nil => cases g2
        | cons b rest =>
        cases g2
        have hb':b < 2:=hb2 b (by rw [g1];exact List.mem_append_right _ (.head _))
        have e:(1 - (b:Int)) = ((1 - b:Nat):Int):=by exact oA92 hb'
        refine hK _ _ _ ⟨rfl,(xI3_3 (done ++ [b]) rest (.int b) (by rw [g1];simp) rfl ?_ rfl)⟩
        rw [List.map_append,natV_app]
        show _ = _ ++ [V.int ((1 - b:Nat):Int)]
        rw [<- e]
    · intro v xs acc ls HL K hT1 hK;refine xA0_1 hT1 ?_;(try clear hT1);intro hT2;subst hT2;intro hT3;refine xA2_3 hT3 ?_;(try clear hT3);intro k y k1 k2 hT4;subst hT4;intro hT5;subst hT5
      have hkd:k < bits.length / 8 + 1:=by
        rcases Nat.lt_or_ge k (bits.length / 8 + 1) with q | q
        · exact q
        · rw [show bits.length / 8 + 1 - k = 0 by exact oA264 q] at k2;cases k2
      rw [show bits.length / 8 + 1 - k = (bits.length / 8 + 1 - (k + 1)) + 1 by lia] at k2
      cases k2
      have p256:(256:Int) ^ ((k:Int)).toNat = ((256 ^ k:Nat):Int):=by rw [Int.toNat_natCast];exact powN 256 k
      have p:=Nat.pow_le_pow_right (n:=256) (by decide) (show k <= 6 by lia)
      have p0:=Nat.pow_pos (n:=k) (show 0 < 256 by decide)
      have e2:Int.fmod (Int.fdiv (wnum bits:Nat) ((256:Int) ^ ((k:Int)).toNat)) 256 = ((wnum bits / 256 ^ k % 256:Nat):Int):=by
        rw [p256,fdivN];exact fmodN _ 256
      refine (xI0_3 (xI0_2 ⟨by decide,by decide⟩ (by exact oA63) (by lia)) (by rw [p256];exact (xI0_2 (by exact oA57 p0) (by exact oA53) (by exact oA119 p))) (by decide) (hK _ _ _ ⟨rfl,(xI2_3 (k + 1) (.int k) hkd (by congr 1) ?_ rfl)⟩))
      have:octs (wnum bits) (k + 1) = octs (wnum bits) k ++ [wnum bits / 256 ^ k % 256]:=by unfold octs;rw [List.range_succ,List.map_append];rfl
      rw [this,natV_app]
      show _ = _ ++ [V.int ((wnum bits / 256 ^ k % 256:Nat):Int)]
      rw [<- e2]
  · intro v xs ls HK K hT1 hK;refine xA0_1 hT1 ?_;(try clear hT1);intro hT2;subst hT2;intro hT3;refine xA3_2 hT3 ?_;(try clear hT3);intro done rest y8 f1 f2 hT4;subst hT4
    cases rest with
    | nil => cases f2
    | cons b rest =>
    cases f2
    refine ⟨.inl ⟨by decide,by decide⟩,hK _ _ ⟨rfl,(xI3_2 (done ++ [b]) rest (.int b) (by rw [f1];simp) rfl ?_)⟩⟩
    have:wnum (done ++ [b]) = 2 * wnum done + b:=by unfold wnum;rw [num_app];rfl
    rw [this,Int.natCast_add,Int.natCast_mul];rfl
end
section
variable {G:Gl}
noncomputable def FnTop (G:Gl) (f:Value) (w:List V -> WV):Prop :=
  ∀ (s:Shared) (Q:QV) (args:List Value),s.gens = #[] -> s.os = G.os -> G.h₀.StaysIn s.heap -> TabInv G s.heap -> w (args.map er) Q (fun zz zz=>False) (fun zz=>none) ->
    codeN (model G.prog G.w) callerA (.call f ⟨args,[]⟩) (fun r s'=>∃ v c o H' ls',r = .ok (.ret v) /\ St G c o H' ls' s' /\ Q (er v) H') s
theorem n_topC (GO:GlOk G) {fa:Addr} {name qual:Str} {params:Arguments} {body:List Stmt} {scope:Scope} {dV kV doc pm:Value} {an:Option Addr} {cdv ct:Value} (F:FnRec G fa name qual params body scope dV kV doc pm an cdv ct)
    {names:List Str} {k m n:Nat} {wb:WS} {w:List V -> WV} (hn:n <= 100) (hnd:names.Nodup) (hlen:names.length = k + m) (hall:∀ x ∈ names,scope.names.lookup x = some .local ∨ scope.names.lookup x = some .cell)
    (hcn:((cellsFrom 0 scope.names []).map (·.1)).Nodup)
    (hbind:∀ args Q X H,w (args.map er) Q X H -> ∃ vals,vals.length = k /\ bindArgs (fnX name qual params body scope [] dV kV doc pm an cdv ct) ⟨args,[]⟩ = pure (names.zip vals) /\ fnW wb m (vals.map er) Q X H)
    (hb:∀ L st,CxOk G (cxC qual scope fa cdv names L st) -> NB G (cxC qual scope fa cdv names L st) n body wb)
    (hco:scope.isCoroutine = false:=by rfl) (hgen:scope.isGenerator = false:=by rfl) (hk:scope.kind = .function:=by rfl):FnTop G (.ref fa) w:=by
  intro s Q args sgens sos sbase stab hw
  refine xA3_0 F.obj ?_;intro oc od sl ho
  refine xA1_2 (hbind args Q _ _ hw) ?_;intro vals hv hbi hfn
  have hroom:callerA.depth < recursionLimit:=by decide
  have fresh:∀ b,s.heap.objs.size <= b -> s.heap.get? b = none:=fun b hb=>by
    cases q:s.heap.get? b with
    | none => rfl
    | some y => exact absurd (Heap.lt_size q) (Nat.not_lt.mpr hb)
  have hkind:∀ x ∈ names.zip vals,scope.names.lookup x.1 = some .local ∨ (scope.names.lookup x.1 = some .cell /\ ((cellsFrom (s.heap.objs.size + 1) scope.names []).lookup x.1).isSome = true):=fun x hx=>by
    rcases hall x.1 (List.of_mem_zip hx).1 with h | h
    · exact .inl h
    · exact .inr ⟨h,cellsFrom_some _ _ _ (.inl h)⟩
  refine codeN_call_cells hroom (sbase _ _ ho) rfl (GO.nolimit.keeps sbase) (F.code.keeps sbase) rfl hbi rfl hkind (fun s₁ x=>?_) hco hgen hk
  refine xA2_1 x.done ?_;intro h₁ tk hT1;subst hT1;intro hk₁
  have hns:=x.toInCall.ns
  have hcell:=x.cell
  have habove:=x.above
  have hapart:=x.apart
  have hcnL:((cellsFrom (s.heap.objs.size + 1) scope.names []).map (·.1)).Nodup:=cellsFrom_names scope.names 0 (s.heap.objs.size + 1) [] [] rfl ▸ hcn
  have f2:G.h₀.get? s.heap.objs.size = none:=none_of_keeps sbase (fresh _ (Nat.le_refl _))
  have hown:∀ b ∈ (cxC qual scope fa cdv names s.heap.objs.size []).own,s.heap.objs.size <= b:=fun b hb=>by
    rcases List.mem_cons.mp hb with rfl | hb
    · exact Nat.le_refl _
    · refine xA1_1 (List.mem_map.mp hb) ?_;intro p hp hT1;subst hT1
      exact Nat.le_of_lt (habove p.1 p.2 hp)
  have C':CxOk G (cxC qual scope fa cdv names s.heap.objs.size []):=by
    refine ⟨hk,rfl,rfl,hnd,.head _,fun x ca zz h=>?_,fun x y ca h1 h2=>name_of_addr hapart (mem_of_lookup h1) (mem_of_lookup h2),(xI1_1 _ rfl (xI2_1 _ _ rfl rfl)),fun q=>?_⟩
    · have hm:=mem_of_lookup h
      have hlt:=habove x ca hm
      refine ⟨.tail _ (List.mem_map_of_mem (f:=(·.2)) hm),Nat.ne_of_gt hlt,fun q=>?_⟩
      rcases List.mem_cons.mp q with q | q
      · exact Nat.ne_of_gt hlt q
      · cases q
    · have:=fresh _ (hown _ q)
      refine xA1_1 stab ?_;(try clear stab);intro ps hP _
      rw [hP] at this;cases this
  refine xA3_3 (id hns) ?_;intro ol es ep n1 n2 n3 n4
  have kz:((names.zip vals).map (·.1)).Nodup:=List.Pairwise.sublist (fst_zip_sub names vals) hnd
  have s':St G (cxC qual scope fa cdv names s.heap.objs.size []) ⟨fun zz=>none,h₁⟩ (fun zz=>none) (vals.map er ++ List.replicate m .unb) { s with heap:=h₁,toks:=tk }:=by
    refine ⟨sgens,sos,fun b y e=>hk₁ b y (sbase b y e),fun a mm e=>(by cases e),fun a ha=>?_,fun x ca e=>?_,stab.keeps hk₁,⟨(xI1_1 _ hns (fun i x v hi hkx hv' hne=>?_)),fun i x hi hx=>?_⟩,?_,⟨fun b y e zz zz zz zz=>e,fun b y e zz zz=>⟨y.slots,e⟩,fun b y zz e=>e,fun b y e=>⟨y,e⟩⟩⟩
    · refine ⟨none_of_keeps sbase (fresh a (hown a ha)),?_⟩
      rcases List.mem_cons.mp ha with rfl | ha
      · exact ⟨ol,n1⟩
      · refine xA1_1 (List.mem_map.mp ha) ?_;intro p hp hT1;subst hT1
        refine xA1_1 (hcell p.1 p.2 (lookup_mem hcnL hp)) ?_;intro oc h1 _
        exact ⟨oc,h1⟩
    · refine xA1_1 (hcell x ca e) ?_;intro oc h1 _
      exact ⟨rfl,⟨ oc,h1⟩⟩
    · refine xA0_1 (len_ls hv hv' hne) ?_;intro hi' hT1;refine xA1_1 hT1 ?_;(try clear hT1);intro u h1 h2
      exact (xI1_1 u (bindL_mem hkx _ _ kz (zip_mem hi h1)) h2)
    · have hc:scope.names.lookup x = some .cell:=(hall x (List.mem_of_getElem? hi)).elim (fun h=>(hx h).elim) id
      refine xA1_0 (Option.isSome_iff_exists.mp (cellsFrom_some scope.names (s.heap.objs.size + 1) [] (.inl hc))) ?_;intro ca hca
      refine (xI2_2 ca _ hca (hcell x ca hca) (fun v hv' hne=>?_))
      refine xA0_1 (len_ls hv hv' hne) ?_;intro hi' hT1;refine xA1_1 hT1 ?_;(try clear hT1);intro u h1 h2
      exact (xI1_1 u (bindC_mem hx _ _ kz (zip_mem hi h1)) h2)
    · exact Heap.FunFrames.cons (by show scope.kind ≠ _;rw [hk];decide) rfl hns f2 trivial
  have hA:AOk n (cxC qual scope fa cdv names s.heap.objs.size []) (callerA.deeper (cxC qual scope fa cdv names s.heap.objs.size []).env):=by
    refine (xI0_3 (Around.frames_deeper rfl) rfl ?_ ?_)
    · have:callerA.depth + 1 <= 310:=by decide
      show callerA.depth + 1 + 4 * n <= 980;lia
    · show callerA.units + 3 + 60 * n <= 9800
      have:callerA.units + 3 = 7:=rfl
      lia
  have:=hb s.heap.objs.size [] C' (callerA.deeper (cxC qual scope fa cdv names s.heap.objs.size []).env) ⟨fun zz=>none,h₁⟩ _ (fun zz=>none) _ (fun zz H'=>Q .none H') Q (fun zz zz=>False) hA s' hfn
  refine n_mono this (fun f s' hf=>?_) fun e s' hx=>?_
  · cases f with
    | next => obtain ⟨ls',H',hs',hq⟩ := hf;exact ⟨.none,_,_,H',ls',rfl,hs',hq⟩
    | ret v => obtain ⟨ls',H',hs',hq⟩ := hf;exact ⟨v,_,_,H',ls',rfl,hs',hq⟩
    | brk => exact hf.elim
    | cont => exact hf.elim
  · refine xA4_3 hx ?_;(try clear hx);intro _ _ _ _ _ _ hX _
    exact hX.elim
end
theorem whole_row {ns:List Int} (w:whole ns) (h1:2 <= ns.length) (h2:ns.length <= 15):rowOk ns:=(xI0_2 (by exact oA75 h1) (by exact oA113 h2) (fun x hx=>by have:=w.1 x hx;exact oA26 this))
theorem seq_gen {a b:WS} {ls:List V} {Qn:QL} {Qr:QV} {X:XP} {H:MH} (h:∀ K:QL,(∀ ls' H',b ls' Qn Qr X H' -> K ls' H') -> a ls K Qr X H):sSeq a b ls Qn Qr X H:=h _ fun zz zz q=>q
section
variable {G:Gl} {c:Cx} {n:Nat}
set_option maxHeartbeats 1000000 in
theorem law_ok (FX:Facts G) {fa l:Addr} {its:Array Value} {sc:List Int} (hro:G.h₀.IsList l its) (hxs:its.toList.map er = sc.map V.int) (hz:its.size <= sizeLine) (hil:sc.length <= 100000) (F:Def G (topFn 42) fa "law" "law"):FnTop G (.ref fa) (fun args Q X H=>args = [.ref l] /\ ∀ H',Q (.bool true) H'):=by
  refine xA5_0 F ?_;(try clear F);intro doc pm an cdv ct F
  have GO:=FX.go
  have NB:=FX.nb
  have h__law_box:=box' FX hro hxs hz
  have h__law_lengths:=lengths' FX
  have h__law_near:=near' FX
  have h__law_codes_right:=codesright' FX
  have h__law_laid:=laid' FX
  have h__law_read_right:=readright' FX
  refine n_topC (wb:=_) (names:=["script", "box", "tiny", "lengths", "rows", "symbols", "bits"]) (k:=1) (m:=6) (n:=13) GO F (by decide) (by decide +kernel) rfl (by decide +kernel) (by decide +kernel) ?_ (fun L st C=>(nb_cons (ns_of (s_asgC C 1 (r_fn GO h__law_box C (by decide) (l_cons (r_loc C 0) l_nil))))
      (nb_cons (ns_of (s_asg C 2 (r_call GO (r_blt GO C (v:=.type "int") (NB _ (by decide)) rfl) (.type _) int_ok (l_cons (r_and (r_cmp1 o_lt (r_call GO (r_blt GO C (v:=.builtin "len") (NB _ (by decide)) rfl) (.blt _) (lenRo_ok hro hxs hz) (l_cons (r_loc C 0) l_nil)) r_int) (r_cmp1 o_eq (r_item gi_ok (r_cell C 1) r_int) r_int)) l_nil))))
      (nb_cons (ns_of (s_asgC C 3 (r_fn GO h__law_lengths C (by decide) (l_cons (r_cell C 1) (l_cons (r_bin o_sub r_int (r_bin (o_mul C) r_int (r_loc C 2))) l_nil)))))
      (nb_cons (ns_of (s_asg C 4 (r_bin o_add (r_list (l_cons (r_cell C 3) l_nil)) (r_comp C (own:=["turn"]) (fr:=[("box",1),("lengths",3)]) kind_range (it_range1 GO (r_blt GO C (v:=.type "range") (NB _ (by decide)) rfl) (l_cons (r_bin o_add r_int (r_call GO (r_blt GO C (v:=.type "int") (NB _ (by decide)) rfl) (.type _) int_ok (l_cons (r_cmp1 o_gt (r_call GO (r_blt GO C (v:=.builtin "len") (NB _ (by decide)) rfl) (.blt _) (lenRo_ok hro hxs hz) (l_cons (r_loc C 0) l_nil)) r_int) l_nil))) l_nil)) (fun zz C'=>(xI0_2 (k_range C' (a_loc C' 0)) ct_none (r_fn GO h__law_near C' (by decide) (l_cons (r_cell C' 1) (l_cons (r_cell C' 2) l_nil))))) ⟨by decide,by decide,(fun p hp=>by rcases List.mem_cons.mp hp with rfl | hp;exact (xI0_3 rfl (fun q=>by cases (show some NameKind.cell = some NameKind.local from q)) (by decide +kernel) (by decide +kernel));rcases List.mem_cons.mp hp with rfl | hp;exact (xI0_3 rfl (fun q=>by cases (show some NameKind.cell = some NameKind.local from q)) (by decide +kernel) (by decide +kernel));cases hp),kn_free (by rfl),by decide +kernel,rfl⟩))))
      (nb_cons (ns_of (s_if (t_cmp1 o_ne (r_comp C (own:=["row"]) (fr:=[]) kind_list (it_list (r_loc C 4)) (fun zz C'=>(xI0_2 (k_list C' (a_loc C' 0)) (ct_one (t_not (t_val (r_fn GO h__law_codes_right C' (by decide) (l_cons (r_loc C' 0) l_nil))))) (r_loc C' 0))) ⟨by decide,by decide,(fun p hp=>nomatch hp),kn_free (by rfl),by decide +kernel,rfl⟩) (r_list l_nil)) (b_one (s_ret r_bool)) b_nil))
      (nb_cons (ns_of (s_asgT (a_tup (.cons (a_loc C 5) (.cons (a_loc C 6) .nil)) (by intro _;rfl) (aLocs_reach [5,6])) (r_fn GO h__law_laid C (by decide) (l_cons (r_cell C 1) (l_cons (r_cell C 3) (l_cons (r_bin o_sub r_int (r_bin (o_mul C) r_int (r_loc C 2))) l_nil))))))
      (nb_one (n_ret (nr_fn GO h__law_read_right C (by decide) (l_cons (r_cell C 3) (l_cons (r_loc C 5) (l_cons (r_loc C 6) l_nil)))))))))))))
  intro args Q X H hT1;refine xA0_1 hT1 ?_;(try clear hT1);intro h1 hq
  refine xA1_1 (map1 h1) ?_;intro u1 hT1;subst hT1;intro e1
  refine (xI1_2 [u1] rfl (by rfl) ?_)
  show fnW _ 6 [er u1] Q X H
  rw [e1]
  refine ⟨rfl,fun D H1 hD hb E1=>?_⟩
  refine seq_gen fun K1 hK1=>?_
  refine xA3_2 hb ?_;(try clear hb);intro g mm t hD1 hm ht
  have hb1:boxAt H1 D 0:=(xI3_2 g mm t hD1 hm ht)
  have key:∀ tv:Nat,tv <= 1 -> K1 [.ref l,.ref D,.int tv,.unb,.unb,.unb,.unb] H1:=fun tv htv=>by
    refine hK1 _ _ ?_
    clear hK1
    have e7:(11:Int) - 7 * tv = ((11 - 7 * tv:Nat):Int):=by lia
    refine ⟨.inl ⟨by decide,by decide⟩,⟨ D,11 - 7 * tv,0,by show [V.ref D,V.int (11 - 7 * (tv:Int))] = _;rw [e7],by lia,by exact oA73,hb1,by lia,fun Lr H2 ns hLr hl hw l2 l15 b2 x2=>?_⟩⟩
    have LD:Lr ≠ D:=(ne_of_none hD1 hLr).symm
    have LDm:Lr ∉ [D]:=by simpa using LD
    refine ⟨Nat.le_of_ble_eq_true rfl,fun D1 hD1'=>Or.inl (xI1_2 l rfl rfl ?_)⟩
    unfold wInt
    refine wCmp_join fun bb hbb=>?_
    have E2:=Ext.new (m:=.list [.ref Lr]) hD1'
    have b2':=b2.keep E2
    have hl':=E2 _ _ hl
    have d1':=upd_self H2 D1 (.list [.ref Lr])
    have D1D:D1 ∉ [D]:=ne_box b2 hD1'
    generalize upd H2 D1 (.list [.ref Lr]) = H3 at E2 b2' hl' d1' ⊢
    refine xA1_1 (?_:∃ cnt0:Nat,(1:Int) + (if bb then (1:Int) else 0) = cnt0 /\ cnt0 <= 2) ?_
    · cases bb
      · exact (xI1_1 1 rfl (by lia))
      · exact (xI1_1 2 rfl (by lia))
    intro cnt0 hc0 hc1
    refine iR_up (by rw [hc0];lia) ?_
    have hcn:((cnt0:Int) - 0).toNat = cnt0:=by exact oA43
    rw [hc0,hcn]
    refine ⟨by rw [rangeL_len];lia,compW_inv (fun xs acc ls HH=>ExtB [D] H3 HH /\ ∃ (rs:List Addr) (y:V),acc = rs.map .ref /\ rs.length + xs.length <= 2 /\ (∀ r ∈ rs,r ∉ [D] /\ ∃ ns',HH r = some (.list (ns'.map .int)) /\ rowOk ns') /\ boxAt HH D (40 + 3 * rs.length) /\ ls = [y,.ref D,.ref Lr]) ?_ ?_ ?_ _ _ _ _ ⟨ExtB.rfl,(xI2_4 [] (.unb) rfl (by rw [rangeL_len];simp;omega) (fun r q=>nomatch q) b2' rfl)⟩⟩
    · intros;trivial
    · intro acc ls HH hT1 D3 hD3;refine xA0_1 hT1 ?_;(try clear hT1);intro x4 hT2;refine xA2_4 hT2 ?_;(try clear hT2);intro rs y hT3;subst hT3;intro r1 r2 b4 hT4;subst hT4
      have dl:=x4 _ _ D1D d1'
      have ll:=x4 _ _ LDm hl'
      refine onList_of (alloc_keep hD3 dl) (onList_of (upd_self _ _ _) ⟨by simp at r1 ⊢;lia,fun R hR=>?_⟩)
      have hrows:∀ r ∈ Lr :: rs,∃ ns',HH r = some (.list (ns'.map .int)) /\ rowOk ns':=fun r hr=>by
        rcases List.mem_cons.mp hr with rfl | hr
        · exact (xI1_1 ns ll (whole_row hw l2 l15))
        · exact (r2 r hr).2
      refine xA1_0 (⟨_,rfl⟩:∃ H5,H5 = upd (upd HH D3 (.list (rs.map V.ref))) R (.list ([V.ref Lr] ++ rs.map V.ref))) ?_;intro H5 hH5
      rw [<- hH5]
      have E5:Ext HH H5:=by rw [hH5];exact (Ext.new hD3).trans (Ext.new hR)
      have r5:H5 R = some (.list ((Lr :: rs).map V.ref)):=by rw [hH5,upd_self];rfl
      clear hH5
      refine onList_of r5 ⟨by simp at r1 ⊢;lia,compW_inv (fun xs acc ls HL=>Ext H5 HL /\ ∃ (rest:List Addr) (y:V),xs = rest.map .ref /\ (∀ r ∈ rest,r ∈ Lr :: rs) /\ acc = [] /\ ls = [y]) ?_ ?_ ?_ _ _ _ _ ⟨Ext.rfl,(xI2_3 (Lr :: rs) (.unb) rfl (fun r h=>h) rfl rfl)⟩⟩
      · intro xs acc ls HL hT1;refine xA0_1 hT1 ?_;(try clear hT1);intro F1 _
        exact F1 _ _ r5
      · intro acc ls HL hT1 D5 hD5;refine xA0_1 hT1 ?_;(try clear hT1);intro F1 hT2;refine xA2_3 hT2 ?_;(try clear hT2);intro rest y f1 f2 hT3;subst hT3;intro hT4;subst hT4
        refine ⟨by decide,fun D6 hD6=>onList_of (alloc_keep hD6 (upd_self _ _ _)) (onList_of (upd_self _ _ _) ⟨seqEq_nat _ [],?_⟩)⟩
        have E6:=(E5.trans F1).trans ((Ext.new (m:=.list []) hD5).trans (Ext.new (m:=.list []) hD6))
        generalize upd (upd HL D5 (.list [])) D6 (.list []) = H6 at E6 ⊢
        have b6:=b4.keep E6
        have l6:=E6 _ _ ll
        have e4:(4:Int) - 2 * tv = ((4 - 2 * tv:Nat):Int):=by lia
        refine ⟨.inl ⟨by decide,by decide⟩,⟨ D,Lr,4 - 2 * tv,40 + 3 * rs.length,ns,by show [V.ref D,V.ref Lr,V.int (4 - 2 * (tv:Int))] = _;rw [e4],LD,l6,hw,l15,by lia,by exact oA77,b6,by simp at r1;lia,fun T H7 Sy Bi syms extra t1 t2 t3 t4 t5 t6 t7 x7=>?_⟩⟩
        exact onTup_of t1 ⟨Lr,Sy,Bi,ns,syms,extra,rfl,x7 _ _ LDm l6,hw,l2,l15,t2,t3,t4,t5,t6,t7,fun H' zz=>hq H'⟩
      · intro v xs acc ls HL K hT1 hK;refine xA0_1 hT1 ?_;(try clear hT1);intro F1 hT2;refine xA2_3 hT2 ?_;(try clear hT2);intro rest y f1 f2 hT3;subst hT3;intro hT4;subst hT4
        cases rest with
        | nil => cases f1
        | cons r rest =>
        cases f1
        refine xA1_1 (hrows r (f2 r (.head _))) ?_;intro ns' n1 n2
        exact ⟨r,ns',rfl,F1 _ _ (E5 _ _ n1),n2,fun H' E'=>hK _ _ _ ⟨F1.trans E',(xI2_3 rest (.ref r) rfl (fun z hz=>f2 z (.tail _ hz)) rfl rfl)⟩⟩
    · intro v xs acc ls HH K hT1 hK;refine xA0_1 hT1 ?_;(try clear hT1);intro x4 hT2;refine xA2_4 hT2 ?_;(try clear hT2);intro rs y hT3;subst hT3;intro r1 r2 b4 hT4;subst hT4
      have hxl:(v :: xs).length = xs.length + 1:=rfl
      rw [hxl] at r1
      have ll:=x4 _ _ LDm hl'
      refine ⟨D,Lr,_,ns,rfl,LD,ll,hw.1,l2,l15,b4,by lia,fun E HE ns' hE hE' hrok bE xE=>hK _ _ _ ⟨x4.trans xE,(xI2_4 (rs ++ [E]) v (by simp) (by rw [List.length_append];simp;lia) (fun r hr=>?_) (bE.mono (by rw [List.length_append];simp;exact oA78)) rfl)⟩⟩
      rcases List.mem_append.mp hr with hr | hr
      · refine xA0_1 (r2 r hr) ?_;intro q1 hT1;refine xA1_1 hT1 ?_;(try clear hT1);intro nq q2 q3
        exact ⟨q1,(xI1_1 nq (xE _ _ q1 q2) q3)⟩
      · rw [List.mem_singleton] at hr
        subst hr
        exact ⟨ne_box b4 hE,(xI1_1 ns' hE' hrok)⟩
  exact Or.inl (xI1_3 l rfl rfl (fun zz=>onLD_ofL hD1 ⟨by decide,(xI1_1 (.int g) rfl ⟨ fun q=>key 1 (by lia),fun q=>key 0 (by lia)⟩)⟩) (fun q=>key 0 (by lia)))
end
noncomputable def RecC (K:Frag) (t:FnTxt) (fa:Addr) (name qual:Str) (dV:Value) (ca:Addr):Prop :=
  ∃ oc od sl doc pm an ct co vs tt,K.lookup fa = some ⟨oc,od,.func (fnX name qual t.params t.body t.scope [] dV .none doc pm an (.ref ca) ct),sl⟩ /\ K.lookup ca = some co /\ co.data = .fields vs /\ vs[1]? = some (.str qual tt)
noncomputable def GlobC (K:Frag) (x:Str) (i:Nat):Prop:=∃ fa ca,nsIn K mainGlobals x = some (some (.ref fa)) /\ keepIn K (.ref fa) = true /\ RecC K (topFn i) fa x x .none ca
noncomputable def MthC (K:Frag) (C:Addr) (k:String) (q:Str) (i j:Nat):Prop:=∃ f ca,MethK K C (Str.ofString k) f /\ RecC K (clsFn i j) f k q .none ca
noncomputable def DefDC (K:Frag) (t:FnTxt) (fa:Addr) (name qual:Str) (items:Array Value):Prop:=∃ T k oT ca,K.lookup T = some oT /\ oT.data = .seq items k /\ RecC K t fa name qual (.ref T) ca
structure ClsC (K:Frag) (x:Str) (C fI:Addr):Prop where
  mg:nsIn K mainGlobals x = some (some (.ref C))
  keep:keepIn K (.ref C) = true
  makes:makesIn K C = true
  init:findIn K (.ref C) "__init__" = some (some (.ref fI))
  fn:typeIn K (.ref fI) = some (.type "function")
section
variable {G:Gl}
theorem RecC.rec {t:FnTxt} {fa ca:Addr} {name qual:Str} {dV:Value} (X:G.K.In G.h₀) (h:RecC G.K t fa name qual dV ca):∃ doc pm an ct,FnRec G fa name qual t.params t.body t.scope dV .none doc pm an (.ref ca) ct:=by
  refine xA10_0 h ?_;(try clear h);intro oc od sl doc pm an ct co vs tt hT1;refine xA0_3 hT1 ?_;(try clear hT1);intro h1 h2 h3 h4
  exact ⟨doc,pm,an,ct,⟨ ⟨oc,od,sl,X _ _ h1⟩,(xI4_3 ca co vs tt rfl (X _ _ h2) h3 h4)⟩⟩
theorem RecC.defn {t:FnTxt} {fa ca:Addr} {name qual:Str} (X:G.K.In G.h₀) (h:RecC G.K t fa name qual .none ca):Def G t fa name qual:=by
  refine xA4_0 (h.rec X) ?_;intro doc pm an ct F
  exact ⟨doc,pm,an,_,ct,F⟩
theorem GlobC.glob {x:Str} {i:Nat} (X:G.K.In G.h₀) (g:G.h₀.Ns mainGlobals G.mg) (h:GlobC G.K x i):Glob G x i:=by
  refine xA2_2 h ?_;(try clear h);intro fa ca h1 h2 h3
  exact (xI1_2 fa (mg_of X g h1) h2 (h3.defn X))
theorem MthC.mth {C:Addr} {k:String} {q:Str} {i j:Nat} (X:G.K.In G.h₀) (h:MthC G.K C k q i j):Mth G C k q i j:=by
  refine xA2_1 h ?_;(try clear h);intro f ca h1 h2
  exact (xI1_1 f h1 (h2.defn X))
theorem DefDC.defd {t:FnTxt} {fa:Addr} {name qual:Str} {items:Array Value} (X:G.K.In G.h₀) (h:DefDC G.K t fa name qual items):DefD G t fa name qual items:=by
  refine xA4_2 h ?_;(try clear h);intro T k oT ca h1 h2 h3
  refine xA4_0 (h3.rec X) ?_;intro doc pm an ct F
  exact ⟨T,k,oT,doc,pm,an,_,ct,X _ _ h1,h2,F⟩
theorem ClsC.cls {x:Str} {C fI:Addr} (X:G.K.In G.h₀) (g:G.h₀.Ns mainGlobals G.mg) (h:ClsC G.K x C fI):ClsK G x C fI:=⟨mg_of X g h.mg,h.keep,h.makes,h.init,h.fn⟩
end
structure KChk (K:Frag):Prop where
  nb:∀ x ∈ bltNames,nsIn K mainGlobals x = some none
  nd:(NN.Pr :: excs).Nodup
  exc:ExcAll K NN.Pr NN.fI excs
  excI:∃ v,DefDC K (clsFn 2 0) NN.fI "__init__" "PressError.__init__" #[v]
  v_BadTable:nsIn K mainGlobals "BadTable" = some (some (.ref NN.BT))
  v_BadCode:nsIn K mainGlobals "BadCode" = some (some (.ref NN.BC))
  v_BadArgument:nsIn K mainGlobals "BadArgument" = some (some (.ref NN.BA))
  v_CutShort:nsIn K mainGlobals "CutShort" = some (some (.ref NN.CS))
  v_MOST_SYMBOLS:∃ t,nsIn K mainGlobals "MOST_SYMBOLS" = some (some (.int 256 t))
  v_LONGEST_zhuff:∃ t,nsIn K mainGlobals "LONGEST_zhuff" = some (some (.int 11 t))
  LRa:∀ k ∈ ["data", "stop", "position"],AttrK K NN.LR (Str.ofString k)
  BRa:∀ k ∈ ["data", "position"],AttrK K NN.BR (Str.ofString k)
  HTa:∀ k ∈ ["longest", "lengths", "groups", "codes"],AttrK K NN.HT (Str.ofString k)
  PRa:∀ k ∈ ["most", "counts", "symbols"],AttrK K NN.PR (Str.ofString k)
  LRc:∃ f v,ClsC K "LowReader" NN.LR f /\ DefDC K (clsFn 11 0) f "__init__" "LowReader.__init__" #[v,.none] /\ er v = .int 0
  BRc:∃ f ca,ClsC K "BackReader" NN.BR f /\ RecC K (clsFn 12 0) f "__init__" "BackReader.__init__" .none ca
  HTc:∃ f ca,ClsC K "HuffTable" NN.HT f /\ RecC K (clsFn 18 0) f "__init__" "HuffTable.__init__" .none ca
  PRc:∃ f v u,ClsC K "PrefixReader" NN.PR f /\ DefDC K (clsFn 29 0) f "__init__" "PrefixReader.__init__" #[v,u] /\ er u = .bool false
  LR_left:MthC K NN.LR "left" "LowReader.left" 11 1
  LR_peek:MthC K NN.LR "peek" "LowReader.peek" 11 2
  LR_skip:MthC K NN.LR "skip" "LowReader.skip" 11 3
  LR_bits:MthC K NN.LR "bits" "LowReader.bits" 11 4
  LR_bit:MthC K NN.LR "bit" "LowReader.bit" 11 5
  BR_left:MthC K NN.BR "left" "BackReader.left" 12 1
  BR_peek:MthC K NN.BR "peek" "BackReader.peek" 12 2
  BR_skip:MthC K NN.BR "skip" "BackReader.skip" 12 3
  HT_read:MthC K NN.HT "read" "HuffTable.read" 18 1
  HT_code:MthC K NN.HT "code" "HuffTable.code" 18 2
  PR_read:MthC K NN.PR "read" "PrefixReader.read" 29 1
  need_count:GlobC K "need_count" 8
  end_of:GlobC K "end_of" 9
  gathered:GlobC K "gathered" 10
  used_symbols:GlobC K "used_symbols" 16
  check_code:GlobC K "check_code" 17
  decode_stream:GlobC K "decode_stream" 19
  counts_by_length:GlobC K "counts_by_length" 22
  room_of:GlobC K "room_of" 23
  check_lengths:∃ fa v,nsIn K mainGlobals "check_lengths" = some (some (.ref fa)) /\ keepIn K (.ref fa) = true /\ DefDC K (topFn 24) fa "check_lengths" "check_lengths" #[v]
  greatest_length:GlobC K "greatest_length" 25
  first_codes:GlobC K "first_codes" 26
  canonical:GlobC K "canonical" 27
  by_length:GlobC K "by_length" 28
  lw_box:GlobC K "_law_box" 31
  lw_take:GlobC K "_law_take" 32
  lw_lengths:GlobC K "_law_lengths" 33
  lw_near:GlobC K "_law_near" 34
  lw_whole:GlobC K "_law_whole" 35
  lw_lets:GlobC K "_law_lets" 36
  codesR:∃ fa,nsIn K mainGlobals "_law_codes_right" = some (some (.ref fa)) /\ keepIn K (.ref fa) = true /\ RecC K (topFn 37) fa "_law_codes_right" "_law_codes_right" .none 441
  lw_laid:GlobC K "_law_laid" 38
  lw_till_cut:GlobC K "_law_till_cut" 39
  lw_decoded:GlobC K "_law_decoded" 40
  lw_read_right:GlobC K "_law_read_right" 41
noncomputable def lamL:List (Pos × Str):=[(⟨322,0,322,22⟩,lamQ),(⟨323,0,323,35⟩,lamQ)]
theorem facts_of {G:Gl} (go:GlOk G) (hl:G.lams = lamL) (CH:CodeHd G.h₀ 441 G.P) (C:KChk G.K):Facts G:=by
  have X:=go.kin
  have g:=go.g
  exact {
    go:=go
    nb:=fun x hx=>mg_none_of X g (C.nb x hx)
    nd:=C.nd
    exc:=C.exc
    excI:=let ⟨v,h⟩:=C.excI;⟨v,h.defd X⟩
    v_BadTable:=mg_of X g C.v_BadTable
    v_BadCode:=mg_of X g C.v_BadCode
    v_BadArgument:=mg_of X g C.v_BadArgument
    v_CutShort:=mg_of X g C.v_CutShort
    v_MOST_SYMBOLS:=let ⟨t,h⟩:=C.v_MOST_SYMBOLS;⟨t,mg_of X g h⟩
    v_LONGEST_zhuff:=let ⟨t,h⟩:=C.v_LONGEST_zhuff;⟨t,mg_of X g h⟩
    LRa:=C.LRa
    BRa:=C.BRa
    HTa:=C.HTa
    PRa:=C.PRa
    LRc:=let ⟨f,v,h1,h2,h3⟩:=C.LRc;⟨f,v,h1.cls X g,h2.defd X,h3⟩
    BRc:=let ⟨f,_,h1,h2⟩:=C.BRc;⟨f,h1.cls X g,h2.defn X⟩
    HTc:=let ⟨f,_,h1,h2⟩:=C.HTc;⟨f,h1.cls X g,h2.defn X⟩
    PRc:=let ⟨f,v,u,h1,h2,h3⟩:=C.PRc;⟨f,v,u,h1.cls X g,h2.defd X,h3⟩
    LR_left:=C.LR_left.mth X
    LR_peek:=C.LR_peek.mth X
    LR_skip:=C.LR_skip.mth X
    LR_bits:=C.LR_bits.mth X
    LR_bit:=C.LR_bit.mth X
    BR_left:=C.BR_left.mth X
    BR_peek:=C.BR_peek.mth X
    BR_skip:=C.BR_skip.mth X
    HT_read:=C.HT_read.mth X
    HT_code:=C.HT_code.mth X
    PR_read:=C.PR_read.mth X
    need_count:=C.need_count.glob X g
    end_of:=C.end_of.glob X g
    gathered:=C.gathered.glob X g
    used_symbols:=C.used_symbols.glob X g
    check_code:=C.check_code.glob X g
    decode_stream:=C.decode_stream.glob X g
    counts_by_length:=C.counts_by_length.glob X g
    room_of:=C.room_of.glob X g
    check_lengths:=let ⟨fa,v,h1,h2,h3⟩:=C.check_lengths;⟨fa,v,mg_of X g h1,h2,h3.defd X⟩
    greatest_length:=C.greatest_length.glob X g
    first_codes:=C.first_codes.glob X g
    canonical:=C.canonical.glob X g
    by_length:=C.by_length.glob X g
    lw_box:=C.lw_box.glob X g
    lw_take:=C.lw_take.glob X g
    lw_lengths:=C.lw_lengths.glob X g
    lw_near:=C.lw_near.glob X g
    lw_whole:=C.lw_whole.glob X g
    lw_lets:=C.lw_lets.glob X g
    codesR:=by
      refine xA1_2 C.codesR ?_;intro fa h1 h2 h3
      refine xA4_0 (h3.rec X) ?_;intro doc pm an ct F
      exact (xI6_3 fa 441 doc pm an ct (mg_of X g h1) h2 F CH)
    lams:=fun p hp=>by
      rw [hl] at hp
      rcases List.mem_cons.mp hp with rfl | hp
      · rfl
      · rcases List.mem_cons.mp hp with rfl | hp
        · rfl
        · cases hp
    lam1:=by rw [hl];exact .head _
    lam2:=by rw [hl];exact .tail _ (.head _)
    lw_laid:=C.lw_laid.glob X g
    lw_till_cut:=C.lw_till_cut.glob X g
    lw_decoded:=C.lw_decoded.glob X g
    lw_read_right:=C.lw_read_right.glob X g }
theorem ints_er:∀ {vs:List Value} {ns:List Int},IntsAre vs ns -> vs.map er = ns.map V.int
  | _,_,.nil => rfl
  | _,_,.cons a t h => by rw [List.map_cons,List.map_cons,ints_er h];rfl
theorem old_of {G:Gl} {h₁:Heap} {c:Cx} {o:Org} {H:MH} {ls:List V} {s':Shared} (hh:G.h₀ = ghostOf h₁ [(441,439)]) (hP:G.P = 439) (hT:TabsAt [(441,439)] h₁) (x:St G c o H ls s'):OldK h₁ s'.heap:=by
  have h2:=hT (441,439) (.head _)
  refine xA1_1 x.tab ?_;intro ps hps _
  rw [hP] at hps
  have keep:∀ b y,b ≠ 439 -> h₁.get? b = some y -> s'.heap.get? b = some y:=fun b y hb e=>x.base b y (by
    rw [hh];exact ghost_ne e (by simpa using hb))
  refine ⟨fun b y e=>?_,fun b y e=>?_⟩
  · by_cases hb:b = 439
    · subst hb
      rw [h2.2] at e
      cases e
      exact .inr (.inl (xI0_2 ((h2.1.tab h2.2).isCodeTable) rfl (xI2_1 (#[]) ps rfl (by rw [Array.empty_append];exact hps))))
    · exact .inl (keep b y hb e)
  · by_cases hb:b = 439
    · subst hb;exact ⟨_,hps⟩
    · exact ⟨y,keep b y hb e⟩
theorem tab_init {G:Gl} {s:Shared} (h:s.heap.get? G.P = some (tabObj #[])):TabInv G s.heap:=(xI1_2 (#[]) h trivial (fun p hp cv e=>by cases e))
theorem top_glok {G:Gl} {h₁:Heap} {p:Program} {loose:List Str} {mean:ExcName -> Option Value} (hh:G.h₀ = ghostOf h₁ [(441,439)]) (hP:G.P = 439) (hT:TabsAt [(441,439)] h₁) (T:Top p loose mean G.mg G.mb h₁) (X:G.K.In h₁) (hK:noTabs G.K = true):GlOk G:=by
  have T':=ghost_top hT T
  rw [<- hh] at T'
  exact { g:=T'.g,b:=T'.b,nolimit:=T'.nolimit,kin:=by rw [hh];exact ghost_K hT X hK,boot:=T.builtins,bmain:=T'.bmain,noP:=by rw [hh,hP];exact hideAll_none _ (.head _) }
end Mine
namespace Mine
open _root_.PySem _root_.PySem.W PyProof.Rows
noncomputable def kE (P:Params) (k:String) (t:Tok) (v:Value):DictEntry:=⟨PyData.keyHash P (Str.ofString k),.str (Str.ofString k) t,v⟩
noncomputable def e0:Obj:=⟨.type "tuple",none,.seq #[] 0,#[]⟩
noncomputable def n0:Obj:=⟨.none,none,.fields #[],#[]⟩
noncomputable def tu (l:List Value):Obj:=⟨.type "tuple",none,.seq ⟨l⟩ 0,#[]⟩
noncomputable def fd (c:Value) (l:List Value):Obj:=⟨c,none,.fields ⟨l⟩,#[]⟩
noncomputable def ss:List String -> Tok -> List Value
  | [],_ => []
  | x :: l,t => .str x t :: ss l (t + 1)
noncomputable def ts (t:Tok) (l:List String):Obj:=tu (ss l t)
noncomputable def dc (l:List DictEntry) (n:Nat):Obj:=⟨.type "dict",none,.dict ⟨l⟩ n,#[]⟩
noncomputable def sc (a:Addr):Obj:=fd (.type "builtin_function_or_method") [.builtin "object.__init_subclass__",.ref a]
noncomputable def pp:Obj:=fd (.type "builtin_function_or_method") [.builtin "type.__prepare__",.type "type"]
noncomputable def sp (a:Addr):Obj:=fd (.type "super") [.ref a,.ref a,.ref a]
noncomputable def gw (t:Tok) (a:Addr):Obj:=fd (.type "getset_descriptor") [.str "__weakref__" t,.ref a,.builtin "ExceptionGroup.__weakref__",.none]
noncomputable def gd (t:Tok) (a:Addr):Obj:=fd (.type "getset_descriptor") [.str "__dict__" t,.ref a,.builtin "function.__dict__",.builtin "function.__dict__#set"]
noncomputable def fr (c l n:Value):Obj:=⟨.type "frame",none,.plain,#[some c,some (.ref 3),some l,none,some n,none,some (.ref 0)]⟩
noncomputable def co (n q:String) (t:Tok) (l a k:Int) (b:Bool) (r:Addr) (v1 v2 v3 v4:Value) (u:Tok):Obj :=
  fd (.type "code") [.str n t,.str q (t + 1),.str "/claim/cut.py" (t + 2),.int l 0,.int a 0,.int 0 0,.int 0 0,.int k 0,.ref r,.bool b,.int 181 0,.ref (r + 1),v1,v2,v3,v4,.int u 0,.int l 0,.str "/claim/cut.py" (u + 1)]
noncomputable def f0 (t:FnTxt) (n q:String):Obj:={ cls:=.none,data:=.func { name:=n,qualname:=q,params:=t.params,body:=.stmts t.body,scope:=t.scope,globals:=0,closure:=[],defaults:=.none,kwdefaults:=.none } }
noncomputable def fO (t:FnTxt) (n q:String) (dV pm:Value) (c:Addr):Obj:={ cls:=.type "function",data:=.func { name:=n,qualname:=q,params:=t.params,body:=.stmts t.body,scope:=t.scope,globals:=3,closure:=[],defaults:=dV,kwdefaults:=.none,pyModule:=pm,code:=.ref c } }
noncomputable def kl (n:String) (bs ms:List Value) (a:Addr) (sb:List Value) (s:Option Value) (t u:Tok) (nw:Value):Obj :=
  { cls:=.type "type",data:=.cls { name:=n,bases:=bs,mro:=ms,ns:=a,qualname:=n,subclasses:=sb },slots:=#[s,none,some (.str n t),some (.str n u),some nw,some (.bool true)] }
noncomputable def L1 (P:Params):List Obj:=[co "<module>" "<module>" 182 1 0 0 false 11 .none .none .none .none 185,
 fr (.ref 13) (.ref 3) (.str "__main__" 164),
 e0,
 n0,
 ts 190 ["k"],
 e0,
 f0 (topFn 0) "_wall" "_wall",
 co "_wall" "_wall" 187 1 1 3 true 15 .none (.ref 17) (.ref 18) (.ref 19) 191,
 fO (topFn 0) "_wall" "_wall" .none (.str "__main__" 164) 20,
 tu [.type "ValueError"],
 pp,
 dc [kE P "__module__" 203 (.str "threepress.errors" 194),kE P "__qualname__" 205 (.str "PressError" 204),kE P "__firstlineno__" 207 (.int 5 206),kE P "__init__" 216 (.ref 36),kE P "__static_attributes__" 218 (.ref 37)] 5,
 e0,
 fd .none [.int 7 0,.int 4 0,.ref 35],
 co "PressError" "PressError" 198 5 0 0 false 25 .none .none .none .none 201,
 fr (.ref 27) (.ref 24) (.str "threepress.errors" 194),
 ts 208 [""],
 e0,
 n0,
 ts 212 ["self", "reason"],
 e0,
 f0 (clsFn 2 0) "__init__" "PressError.__init__",
 co "__init__" "PressError.__init__" 209 7 2 3 true 30 .none (.ref 32) (.ref 33) (.ref 34) 214,
 fO (clsFn 2 0) "__init__" "PressError.__init__" (.ref 29) (.str "threepress.errors" 194) 35,
 ts 217 ["reason"],
 dc [kE P "__module__" 203 (.str "threepress.errors" 194),kE P "__firstlineno__" 207 (.int 5 206),kE P "__init__" 216 (.ref 36),kE P "__static_attributes__" 218 (.ref 37),kE P "__weakref__" 220 (.ref 40),kE P "__doc__" 221 .none] 3,
 kl "PressError" [.type "ValueError"] [.ref 39,.type "ValueError",.type "Exception",.type "BaseException",.type "object"] 38 [.ref 52,.ref 64,.ref 76,.ref 88] (some (.ref 22)) 196 204 (.builtin "ValueError.__new__"),
 gw 219 39,
 sp 39,
 sc 39,
 tu [.ref 39],
 pp,
 dc [kE P "__module__" 231 (.str "threepress.errors" 194),kE P "__qualname__" 233 (.str "CutShort" 232),kE P "__firstlineno__" 235 (.int 10 234),kE P "__static_attributes__" 236 (.ref 50)] 4,
 e0,
 n0,
 co "CutShort" "CutShort" 226 10 0 0 false 46 .none .none .none .none 229,
 fr (.ref 48) (.ref 45) (.str "threepress.errors" 194),
 e0,
 dc [kE P "__module__" 231 (.str "threepress.errors" 194),kE P "__firstlineno__" 235 (.int 10 234),kE P "__static_attributes__" 236 (.ref 50),kE P "__doc__" 237 .none] 2,
 kl "CutShort" [.ref 39] [.ref 52,.ref 39,.type "ValueError",.type "Exception",.type "BaseException",.type "object"] 51 [] (some (.ref 43)) 224 232 (.builtin "ValueError.__new__"),
 sp 52,
 sc 52,
 tu [.ref 39],
 pp,
 dc [kE P "__module__" 247 (.str "threepress.errors" 194),kE P "__qualname__" 249 (.str "BadCode" 248),kE P "__firstlineno__" 251 (.int 12 250),kE P "__static_attributes__" 252 (.ref 62)] 4,
 e0,
 n0,
 co "BadCode" "BadCode" 242 12 0 0 false 58 .none .none .none .none 245,
 fr (.ref 60) (.ref 57) (.str "threepress.errors" 194),
 e0,
 dc [kE P "__module__" 247 (.str "threepress.errors" 194),kE P "__firstlineno__" 251 (.int 12 250),kE P "__static_attributes__" 252 (.ref 62),kE P "__doc__" 253 .none] 2,
 kl "BadCode" [.ref 39] [.ref 64,.ref 39,.type "ValueError",.type "Exception",.type "BaseException",.type "object"] 63 [] (some (.ref 55)) 240 248 (.builtin "ValueError.__new__"),
 sp 64,
 sc 64,
 tu [.ref 39],
 pp,
 dc [kE P "__module__" 263 (.str "threepress.errors" 194),kE P "__qualname__" 265 (.str "BadTable" 264),kE P "__firstlineno__" 267 (.int 14 266),kE P "__static_attributes__" 268 (.ref 74)] 4,
 e0,
 n0,
 co "BadTable" "BadTable" 258 14 0 0 false 70 .none .none .none .none 261,
 fr (.ref 72) (.ref 69) (.str "threepress.errors" 194),
 e0,
 dc [kE P "__module__" 263 (.str "threepress.errors" 194),kE P "__firstlineno__" 267 (.int 14 266),kE P "__static_attributes__" 268 (.ref 74),kE P "__doc__" 269 .none] 2,
 kl "BadTable" [.ref 39] [.ref 76,.ref 39,.type "ValueError",.type "Exception",.type "BaseException",.type "object"] 75 [] (some (.ref 67)) 256 264 (.builtin "ValueError.__new__"),
 sp 76,
 sc 76,
 tu [.ref 39],
 pp,
 dc [kE P "__module__" 279 (.str "threepress.errors" 194),kE P "__qualname__" 281 (.str "BadArgument" 280),kE P "__firstlineno__" 283 (.int 16 282),kE P "__static_attributes__" 284 (.ref 86)] 4,
 e0,
 n0,
 co "BadArgument" "BadArgument" 274 16 0 0 false 82 .none .none .none .none 277,
 fr (.ref 84) (.ref 81) (.str "threepress.errors" 194),
 e0,
 dc [kE P "__module__" 279 (.str "threepress.errors" 194),kE P "__firstlineno__" 283 (.int 16 282),kE P "__static_attributes__" 284 (.ref 86),kE P "__doc__" 285 .none] 2,
 kl "BadArgument" [.ref 39] [.ref 88,.ref 39,.type "ValueError",.type "Exception",.type "BaseException",.type "object"] 87 [] (some (.ref 79)) 272 280 (.builtin "ValueError.__new__"),
 sp 88,
 sc 88]
noncomputable def L2 (P:Params):List Obj:=[e0,
 n0,
 ts 293 ["count"],
 e0,
 f0 (topFn 8) "need_count" "need_count",
 co "need_count" "need_count" 290 19 1 3 true 91 .none (.ref 93) (.ref 94) (.ref 95) 294,
 fO (topFn 8) "need_count" "need_count" .none (.str "threepress.bits" 288) 96,
 e0,
 n0,
 ts 300 ["octets", "start", "end", "stop"],
 e0,
 f0 (topFn 9) "end_of" "end_of",
 co "end_of" "end_of" 297 22 3 3 true 98 .none (.ref 100) (.ref 101) (.ref 102) 304,
 fO (topFn 9) "end_of" "end_of" .none (.str "threepress.bits" 288) 103,
 e0,
 n0,
 ts 310 ["octets", "low", "count", "stop", "value", "got", "place", "inside"],
 e0,
 f0 (topFn 10) "gathered" "gathered",
 co "gathered" "gathered" 307 27 4 3 true 105 .none (.ref 107) (.ref 108) (.ref 109) 318,
 fO (topFn 10) "gathered" "gathered" .none (.str "threepress.bits" 288) 110,
 e0,
 pp,
 dc [kE P "__module__" 328 (.str "threepress.bits" 288),kE P "__qualname__" 330 (.str "LowReader" 329),kE P "__firstlineno__" 332 (.int 35 331),kE P "__init__" 343 (.ref 126),kE P "left" 350 (.ref 133),kE P "peek" 358 (.ref 140),kE P "skip" 366 (.ref 147),kE P "bits" 375 (.ref 154),kE P "bit" 382 (.ref 161),kE P "align" 389 (.ref 168),kE P "take" 398 (.ref 175),kE P "octet" 405 (.ref 182),kE P "place" 412 (.ref 189),kE P "__static_attributes__" 416 (.ref 190)] 14,
 e0,
 fd .none [.int 37 0,.int 4 0,.ref 125,.int 42 0,.int 4 0,.ref 132,.int 45 0,.int 4 0,.ref 139,.int 49 0,.int 4 0,.ref 146,.int 55 0,.int 4 0,.ref 153,.int 60 0,.int 4 0,.ref 160,.int 63 0,.int 4 0,.ref 167,.int 66 0,.int 4 0,.ref 174,.int 75 0,.int 4 0,.ref 181,.int 78 0,.int 4 0,.ref 188],
 co "LowReader" "LowReader" 323 35 0 0 false 115 .none .none .none .none 326,
 fr (.ref 117) (.ref 114) (.str "threepress.bits" 288),
 tu [.int 0 333,.none],
 e0,
 n0,
 ts 337 ["self", "octets", "start", "end"],
 e0,
 f0 (clsFn 11 0) "__init__" "LowReader.__init__",
 co "__init__" "LowReader.__init__" 334 37 4 3 true 120 .none (.ref 122) (.ref 123) (.ref 124) 341,
 fO (clsFn 11 0) "__init__" "LowReader.__init__" (.ref 119) (.str "threepress.bits" 288) 125,
 e0,
 n0,
 ts 347 ["self"],
 e0,
 f0 (clsFn 11 1) "left" "LowReader.left",
 co "left" "LowReader.left" 344 42 1 3 true 127 .none (.ref 129) (.ref 130) (.ref 131) 348,
 fO (clsFn 11 1) "left" "LowReader.left" .none (.str "threepress.bits" 288) 132,
 e0,
 n0,
 ts 354 ["self", "count"],
 e0,
 f0 (clsFn 11 2) "peek" "LowReader.peek",
 co "peek" "LowReader.peek" 351 45 2 3 true 134 .none (.ref 136) (.ref 137) (.ref 138) 356,
 fO (clsFn 11 2) "peek" "LowReader.peek" .none (.str "threepress.bits" 288) 139,
 e0,
 n0,
 ts 362 ["self", "count"],
 e0,
 f0 (clsFn 11 3) "skip" "LowReader.skip",
 co "skip" "LowReader.skip" 359 49 2 3 true 141 .none (.ref 143) (.ref 144) (.ref 145) 364,
 fO (clsFn 11 3) "skip" "LowReader.skip" .none (.str "threepress.bits" 288) 146,
 e0,
 n0,
 ts 370 ["self", "count", "value"],
 e0,
 f0 (clsFn 11 4) "bits" "LowReader.bits",
 co "bits" "LowReader.bits" 367 55 2 3 true 148 .none (.ref 150) (.ref 151) (.ref 152) 373,
 fO (clsFn 11 4) "bits" "LowReader.bits" .none (.str "threepress.bits" 288) 153,
 e0,
 n0,
 ts 379 ["self"],
 e0,
 f0 (clsFn 11 5) "bit" "LowReader.bit",
 co "bit" "LowReader.bit" 376 60 1 3 true 155 .none (.ref 157) (.ref 158) (.ref 159) 380,
 fO (clsFn 11 5) "bit" "LowReader.bit" .none (.str "threepress.bits" 288) 160,
 e0,
 n0,
 ts 386 ["self"],
 e0,
 f0 (clsFn 11 6) "align" "LowReader.align",
 co "align" "LowReader.align" 383 63 1 3 true 162 .none (.ref 164) (.ref 165) (.ref 166) 387,
 fO (clsFn 11 6) "align" "LowReader.align" .none (.str "threepress.bits" 288) 167,
 e0,
 n0,
 ts 393 ["self", "count", "place"],
 e0,
 f0 (clsFn 11 7) "take" "LowReader.take",
 co "take" "LowReader.take" 390 66 2 3 true 169 .none (.ref 171) (.ref 172) (.ref 173) 396,
 fO (clsFn 11 7) "take" "LowReader.take" .none (.str "threepress.bits" 288) 174,
 e0,
 n0,
 ts 402 ["self"],
 e0,
 f0 (clsFn 11 8) "octet" "LowReader.octet",
 co "octet" "LowReader.octet" 399 75 1 3 true 176 .none (.ref 178) (.ref 179) (.ref 180) 403,
 fO (clsFn 11 8) "octet" "LowReader.octet" .none (.str "threepress.bits" 288) 181,
 e0,
 n0,
 ts 409 ["self"],
 e0,
 f0 (clsFn 11 9) "place" "LowReader.place",
 co "place" "LowReader.place" 406 78 1 3 true 183 .none (.ref 185) (.ref 186) (.ref 187) 410,
 fO (clsFn 11 9) "place" "LowReader.place" .none (.str "threepress.bits" 288) 188,
 ts 413 ["data", "position", "stop"],
 dc [kE P "__module__" 328 (.str "threepress.bits" 288),kE P "__firstlineno__" 332 (.int 35 331),kE P "__init__" 343 (.ref 126),kE P "left" 350 (.ref 133),kE P "peek" 358 (.ref 140),kE P "skip" 366 (.ref 147),kE P "bits" 375 (.ref 154),kE P "bit" 382 (.ref 161),kE P "align" 389 (.ref 168),kE P "take" 398 (.ref 175),kE P "octet" 405 (.ref 182),kE P "place" 412 (.ref 189),kE P "__static_attributes__" 416 (.ref 190),kE P "__dict__" 418 (.ref 193),kE P "__weakref__" 420 (.ref 194),kE P "__doc__" 421 .none] 4,
 kl "LowReader" [.type "object"] [.ref 192,.type "object"] 191 [] (none) 321 329 (.builtin "object.__new__"),
 gd 417 192,
 gw 419 192,
 sp 192,
 sc 192]
noncomputable def L3 (P:Params):List Obj:=[e0,
 pp,
 dc [kE P "__module__" 431 (.str "threepress.bits" 288),kE P "__qualname__" 433 (.str "BackReader" 432),kE P "__firstlineno__" 435 (.int 80 434),kE P "__init__" 443 (.ref 210),kE P "left" 450 (.ref 217),kE P "peek" 460 (.ref 224),kE P "skip" 468 (.ref 231),kE P "bits" 477 (.ref 238),kE P "__static_attributes__" 480 (.ref 239)] 9,
 e0,
 fd .none [.int 82 0,.int 4 0,.ref 209,.int 88 0,.int 4 0,.ref 216,.int 91 0,.int 4 0,.ref 223,.int 97 0,.int 4 0,.ref 230,.int 101 0,.int 4 0,.ref 237],
 co "BackReader" "BackReader" 426 80 0 0 false 200 .none .none .none .none 429,
 fr (.ref 202) (.ref 199) (.str "threepress.bits" 288),
 e0,
 n0,
 ts 439 ["self", "octets"],
 e0,
 f0 (clsFn 12 0) "__init__" "BackReader.__init__",
 co "__init__" "BackReader.__init__" 436 82 2 3 true 204 .none (.ref 206) (.ref 207) (.ref 208) 441,
 fO (clsFn 12 0) "__init__" "BackReader.__init__" .none (.str "threepress.bits" 288) 209,
 e0,
 n0,
 ts 447 ["self"],
 e0,
 f0 (clsFn 12 1) "left" "BackReader.left",
 co "left" "BackReader.left" 444 88 1 3 true 211 .none (.ref 213) (.ref 214) (.ref 215) 448,
 fO (clsFn 12 1) "left" "BackReader.left" .none (.str "threepress.bits" 288) 216,
 e0,
 n0,
 ts 454 ["self", "count", "here", "value"],
 e0,
 f0 (clsFn 12 2) "peek" "BackReader.peek",
 co "peek" "BackReader.peek" 451 91 2 3 true 218 .none (.ref 220) (.ref 221) (.ref 222) 458,
 fO (clsFn 12 2) "peek" "BackReader.peek" .none (.str "threepress.bits" 288) 223,
 e0,
 n0,
 ts 464 ["self", "count"],
 e0,
 f0 (clsFn 12 3) "skip" "BackReader.skip",
 co "skip" "BackReader.skip" 461 97 2 3 true 225 .none (.ref 227) (.ref 228) (.ref 229) 466,
 fO (clsFn 12 3) "skip" "BackReader.skip" .none (.str "threepress.bits" 288) 230,
 e0,
 n0,
 ts 472 ["self", "count", "value"],
 e0,
 f0 (clsFn 12 4) "bits" "BackReader.bits",
 co "bits" "BackReader.bits" 469 101 2 3 true 232 .none (.ref 234) (.ref 235) (.ref 236) 475,
 fO (clsFn 12 4) "bits" "BackReader.bits" .none (.str "threepress.bits" 288) 237,
 ts 478 ["data", "position"],
 dc [kE P "__module__" 431 (.str "threepress.bits" 288),kE P "__firstlineno__" 435 (.int 80 434),kE P "__init__" 443 (.ref 210),kE P "left" 450 (.ref 217),kE P "peek" 460 (.ref 224),kE P "skip" 468 (.ref 231),kE P "bits" 477 (.ref 238),kE P "__static_attributes__" 480 (.ref 239),kE P "__dict__" 482 (.ref 242),kE P "__weakref__" 484 (.ref 243),kE P "__doc__" 485 .none] 4,
 kl "BackReader" [.type "object"] [.ref 241,.type "object"] 240 [] (none) 424 432 (.builtin "object.__new__"),
 gd 481 241,
 gw 483 241,
 sp 241,
 sc 241]
noncomputable def L4 (P:Params):List Obj:=[e0,
 n0,
 f0 (topFn 16) "used_symbols" "used_symbols",
 co "used_symbols" "used_symbols" 494 111 1 3 true 246 .none .none .none (.ref 248) 497,
 fO (topFn 16) "used_symbols" "used_symbols" .none (.str "threepress.zhuff" 488) 249,
 e0,
 n0,
 ts 503 ["lengths", "longest", "length", "room"],
 e0,
 f0 (topFn 17) "check_code" "check_code",
 co "check_code" "check_code" 500 113 1 3 true 251 .none (.ref 253) (.ref 254) (.ref 255) 507,
 fO (topFn 17) "check_code" "check_code" .none (.str "threepress.zhuff" 488) 256,
 e0,
 pp,
 dc [kE P "__module__" 517 (.str "threepress.zhuff" 488),kE P "__qualname__" 519 (.str "HuffTable" 518),kE P "__firstlineno__" 521 (.int 129 520),kE P "__init__" 527 (.ref 269),kE P "read" 540 (.ref 276),kE P "code" 548 (.ref 283),kE P "covers" 556 (.ref 290),kE P "cost" 564 (.ref 297),kE P "stream_size" 572 (.ref 304),kE P "__static_attributes__" 577 (.ref 305)] 10,
 e0,
 fd .none [.int 131 0,.int 4 0,.ref 268,.int 147 0,.int 4 0,.ref 275,.int 158 0,.int 4 0,.ref 282,.int 163 0,.int 4 0,.ref 289,.int 166 0,.int 4 0,.ref 296,.int 169 0,.int 4 0,.ref 303],
 co "HuffTable" "HuffTable" 512 129 0 0 false 261 .none .none .none .none 515,
 fr (.ref 263) (.ref 260) (.str "threepress.zhuff" 488),
 e0,
 n0,
 f0 (clsFn 18 0) "__init__" "HuffTable.__init__",
 co "__init__" "HuffTable.__init__" 522 131 2 3 true 265 .none .none .none (.ref 267) 525,
 fO (clsFn 18 0) "__init__" "HuffTable.__init__" .none (.str "threepress.zhuff" 488) 268,
 e0,
 n0,
 ts 531 ["self", "back", "value", "length", "group", "width", "span"],
 e0,
 f0 (clsFn 18 1) "read" "HuffTable.read",
 co "read" "HuffTable.read" 528 147 2 3 true 270 .none (.ref 272) (.ref 273) (.ref 274) 538,
 fO (clsFn 18 1) "read" "HuffTable.read" .none (.str "threepress.zhuff" 488) 275,
 e0,
 n0,
 ts 544 ["self", "symbol"],
 e0,
 f0 (clsFn 18 2) "code" "HuffTable.code",
 co "code" "HuffTable.code" 541 158 2 3 true 277 .none (.ref 279) (.ref 280) (.ref 281) 546,
 fO (clsFn 18 2) "code" "HuffTable.code" .none (.str "threepress.zhuff" 488) 282,
 e0,
 n0,
 ts 552 ["self", "octets"],
 e0,
 f0 (clsFn 18 3) "covers" "HuffTable.covers",
 co "covers" "HuffTable.covers" 549 163 2 3 true 284 .none (.ref 286) (.ref 287) (.ref 288) 554,
 fO (clsFn 18 3) "covers" "HuffTable.covers" .none (.str "threepress.zhuff" 488) 289,
 e0,
 n0,
 ts 560 ["self", "octets"],
 e0,
 f0 (clsFn 18 4) "cost" "HuffTable.cost",
 co "cost" "HuffTable.cost" 557 166 2 3 true 291 .none (.ref 293) (.ref 294) (.ref 295) 562,
 fO (clsFn 18 4) "cost" "HuffTable.cost" .none (.str "threepress.zhuff" 488) 296,
 e0,
 n0,
 ts 568 ["self", "octets"],
 e0,
 f0 (clsFn 18 5) "stream_size" "HuffTable.stream_size",
 co "stream_size" "HuffTable.stream_size" 565 169 2 3 true 298 .none (.ref 300) (.ref 301) (.ref 302) 570,
 fO (clsFn 18 5) "stream_size" "HuffTable.stream_size" .none (.str "threepress.zhuff" 488) 303,
 ts 573 ["codes", "groups", "lengths", "longest"],
 dc [kE P "__module__" 517 (.str "threepress.zhuff" 488),kE P "__firstlineno__" 521 (.int 129 520),kE P "__init__" 527 (.ref 269),kE P "read" 540 (.ref 276),kE P "code" 548 (.ref 283),kE P "covers" 556 (.ref 290),kE P "cost" 564 (.ref 297),kE P "stream_size" 572 (.ref 304),kE P "__static_attributes__" 577 (.ref 305),kE P "__dict__" 579 (.ref 308),kE P "__weakref__" 581 (.ref 309),kE P "__doc__" 582 .none] 4,
 kl "HuffTable" [.type "object"] [.ref 307,.type "object"] 306 [] (none) 510 518 (.builtin "object.__new__"),
 gd 578 307,
 gw 580 307,
 sp 307,
 sc 307]
noncomputable def L5 (P:Params):List Obj:=[e0,
 n0,
 ts 588 ["table", "octets", "count", "back", "found", "turn"],
 e0,
 f0 (topFn 19) "decode_stream" "decode_stream",
 co "decode_stream" "decode_stream" 585 171 3 3 true 312 .none (.ref 314) (.ref 315) (.ref 316) 594,
 fO (topFn 19) "decode_stream" "decode_stream" .none (.str "threepress.zhuff" 488) 317,
 e0,
 n0,
 ts 604 ["lengths", "longest", "found", "length"],
 e0,
 f0 (topFn 22) "counts_by_length" "counts_by_length",
 co "counts_by_length" "counts_by_length" 601 183 2 3 true 319 .none (.ref 321) (.ref 322) (.ref 323) 608,
 fO (topFn 22) "counts_by_length" "counts_by_length" .none (.str "threepress.prefix" 597) 324,
 e0,
 n0,
 ts 614 ["counts", "left", "count"],
 e0,
 f0 (topFn 23) "room_of" "room_of",
 co "room_of" "room_of" 611 192 1 3 true 326 .none (.ref 328) (.ref 329) (.ref 330) 617,
 fO (topFn 23) "room_of" "room_of" .none (.str "threepress.prefix" 597) 331,
 tu [.bool false],
 e0,
 n0,
 ts 623 ["lengths", "longest", "lone", "counts", "used", "left"],
 e0,
 f0 (topFn 24) "check_lengths" "check_lengths",
 co "check_lengths" "check_lengths" 620 197 3 3 true 334 .none (.ref 336) (.ref 337) (.ref 338) 629,
 fO (topFn 24) "check_lengths" "check_lengths" (.ref 333) (.str "threepress.prefix" 597) 339,
 e0,
 n0,
 ts 635 ["lengths", "most", "length"],
 e0,
 f0 (topFn 25) "greatest_length" "greatest_length",
 co "greatest_length" "greatest_length" 632 209 1 3 true 341 .none (.ref 343) (.ref 344) (.ref 345) 638,
 fO (topFn 25) "greatest_length" "greatest_length" .none (.str "threepress.prefix" 597) 346,
 e0,
 n0,
 ts 644 ["counts", "found", "code", "length", "shorter"],
 e0,
 f0 (topFn 26) "first_codes" "first_codes",
 co "first_codes" "first_codes" 641 215 1 3 true 348 .none (.ref 350) (.ref 351) (.ref 352) 649,
 fO (topFn 26) "first_codes" "first_codes" .none (.str "threepress.prefix" 597) 353,
 e0,
 n0,
 ts 655 ["lengths", "following", "codes", "length"],
 e0,
 f0 (topFn 27) "canonical" "canonical",
 co "canonical" "canonical" 652 222 1 3 true 355 .none (.ref 357) (.ref 358) (.ref 359) 659,
 fO (topFn 27) "canonical" "canonical" .none (.str "threepress.prefix" 597) 360,
 e0,
 n0,
 ts 665 ["lengths", "counts", "places", "used", "length", "found", "symbol"],
 e0,
 f0 (topFn 28) "by_length" "by_length",
 co "by_length" "by_length" 662 232 1 3 true 362 .none (.ref 364) (.ref 365) (.ref 366) 672,
 fO (topFn 28) "by_length" "by_length" .none (.str "threepress.prefix" 597) 367,
 e0,
 pp,
 dc [kE P "__module__" 682 (.str "threepress.prefix" 597),kE P "__qualname__" 684 (.str "PrefixReader" 683),kE P "__firstlineno__" 686 (.int 244 685),kE P "__init__" 696 (.ref 383),kE P "read" 709 (.ref 390),kE P "__static_attributes__" 713 (.ref 391)] 6,
 e0,
 fd .none [.int 246 0,.int 4 0,.ref 382,.int 252 0,.int 4 0,.ref 389],
 co "PrefixReader" "PrefixReader" 677 244 0 0 false 372 .none .none .none .none 680,
 fr (.ref 374) (.ref 371) (.str "threepress.prefix" 597),
 tu [.int 15 599,.bool false],
 e0,
 n0,
 ts 690 ["self", "lengths", "longest", "lone"],
 e0,
 f0 (clsFn 29 0) "__init__" "PrefixReader.__init__",
 co "__init__" "PrefixReader.__init__" 687 246 4 3 true 377 .none (.ref 379) (.ref 380) (.ref 381) 694,
 fO (clsFn 29 0) "__init__" "PrefixReader.__init__" (.ref 376) (.str "threepress.prefix" 597) 382,
 e0,
 n0,
 ts 700 ["self", "bits", "code", "first", "place", "length", "count"],
 e0,
 f0 (clsFn 29 1) "read" "PrefixReader.read",
 co "read" "PrefixReader.read" 697 252 2 3 true 384 .none (.ref 386) (.ref 387) (.ref 388) 707,
 fO (clsFn 29 1) "read" "PrefixReader.read" .none (.str "threepress.prefix" 597) 389,
 ts 710 ["counts", "most", "symbols"],
 dc [kE P "__module__" 682 (.str "threepress.prefix" 597),kE P "__firstlineno__" 686 (.int 244 685),kE P "__init__" 696 (.ref 383),kE P "read" 709 (.ref 390),kE P "__static_attributes__" 713 (.ref 391),kE P "__dict__" 715 (.ref 394),kE P "__weakref__" 717 (.ref 395),kE P "__doc__" 718 .none] 4,
 kl "PrefixReader" [.type "object"] [.ref 393,.type "object"] 392 [] (none) 675 683 (.builtin "object.__new__"),
 gd 714 393,
 gw 716 393,
 sp 393,
 sc 393]
noncomputable def L6 (P:Params):List Obj:=[e0,
 n0,
 ts 726 ["script", "great", "mix", "cell"],
 e0,
 f0 (topFn 31) "_law_box" "_law_box",
 co "_law_box" "_law_box" 723 263 1 3 true 398 .none (.ref 400) (.ref 401) (.ref 402) 730,
 fO (topFn 31) "_law_box" "_law_box" .none (.str "law_tg0039_01" 721) 403,
 e0,
 n0,
 ts 736 ["box", "many", "digit"],
 e0,
 f0 (topFn 32) "_law_take" "_law_take",
 co "_law_take" "_law_take" 733 270 2 3 true 405 .none (.ref 407) (.ref 408) (.ref 409) 739,
 fO (topFn 32) "_law_take" "_law_take" .none (.str "law_tg0039_01" 721) 410,
 e0,
 n0,
 ts 745 ["box", "most", "found", "deep", "turn", "spot", "more"],
 e0,
 f0 (topFn 33) "_law_lengths" "_law_lengths",
 co "_law_lengths" "_law_lengths" 742 277 2 3 true 412 .none (.ref 414) (.ref 415) (.ref 416) 752,
 fO (topFn 33) "_law_lengths" "_law_lengths" .none (.str "law_tg0039_01" 721) 417,
 e0,
 n0,
 ts 758 ["box", "lengths", "way", "spot", "found"],
 e0,
 f0 (topFn 34) "_law_near" "_law_near",
 co "_law_near" "_law_near" 755 287 2 3 true 419 .none (.ref 421) (.ref 422) (.ref 423) 763,
 fO (topFn 34) "_law_near" "_law_near" .none (.str "law_tg0039_01" 721) 424,
 e0,
 n0,
 f0 (topFn 35) "_law_whole" "_law_whole",
 co "_law_whole" "_law_whole" 766 307 1 3 true 426 .none .none .none (.ref 428) 769,
 fO (topFn 35) "_law_whole" "_law_whole" .none (.str "law_tg0039_01" 721) 429,
 e0,
 n0,
 ts 775 ["deed"],
 e0,
 f0 (topFn 36) "_law_lets" "_law_lets",
 co "_law_lets" "_law_lets" 772 311 1 3 true 431 .none (.ref 433) (.ref 434) (.ref 435) 776,
 fO (topFn 36) "_law_lets" "_law_lets" .none (.str "law_tg0039_01" 721) 436,
 e0,
 n0,
 f0 (topFn 37) "_law_codes_right" "_law_codes_right",
 co "_law_codes_right" "_law_codes_right" 779 319 1 3 true 438 .none .none .none (.ref 440) 782,
 fO (topFn 37) "_law_codes_right" "_law_codes_right" .none (.str "law_tg0039_01" 721) 441,
 e0,
 n0,
 f0 (topFn 38) "_law_laid" "_law_laid",
 co "_law_laid" "_law_laid" 785 330 3 3 true 443 .none .none .none (.ref 445) 788,
 fO (topFn 38) "_law_laid" "_law_laid" .none (.str "law_tg0039_01" 721) 446,
 e0,
 n0,
 ts 794 ["reader", "low", "last", "most", "found", "turn", "symbol"],
 e0,
 f0 (topFn 39) "_law_till_cut" "_law_till_cut",
 co "_law_till_cut" "_law_till_cut" 791 339 4 3 true 448 .none (.ref 450) (.ref 451) (.ref 452) 801,
 fO (topFn 39) "_law_till_cut" "_law_till_cut" .none (.str "law_tg0039_01" 721) 453,
 e0,
 n0,
 ts 807 ["table", "data", "many"],
 e0,
 f0 (topFn 40) "_law_decoded" "_law_decoded",
 co "_law_decoded" "_law_decoded" 804 348 3 3 true 455 .none (.ref 457) (.ref 458) (.ref 459) 810,
 fO (topFn 40) "_law_decoded" "_law_decoded" .none (.str "law_tg0039_01" 721) 460,
 e0,
 n0,
 f0 (topFn 41) "_law_read_right" "_law_read_right",
 co "_law_read_right" "_law_read_right" 813 353 3 3 true 462 .none .none .none (.ref 464) 816,
 fO (topFn 41) "_law_read_right" "_law_read_right" .none (.str "law_tg0039_01" 721) 465,
 e0,
 n0,
 f0 (topFn 42) "law" "law",
 co "law" "law" 819 377 1 3 true 467 .none .none .none (.ref 469) 822,
 fO (topFn 42) "law" "law" .none (.str "law_tg0039_01" 721) 470]
noncomputable def GE (P:Params):List DictEntry:=[kE P "__doc__" 166 .none,
 kE P "__package__" 167 .none,
 kE P "__loader__" 168 (.builtin "__main__.__loader__#opaque"),
 kE P "__spec__" 169 .none,
 kE P "__annotations__" 170 (.ref 6),
 kE P "__builtins__" 171 (.ref 4),
 kE P "__file__" 173 (.str "/claim/cut.py" 172),
 kE P "__cached__" 174 .none,
 kE P "_wall" 193 (.ref 21),
 kE P "PressError" 223 (.ref 39),
 kE P "CutShort" 239 (.ref 52),
 kE P "BadCode" 255 (.ref 64),
 kE P "BadTable" 271 (.ref 76),
 kE P "BadArgument" 287 (.ref 88),
 kE P "need_count" 296 (.ref 97),
 kE P "end_of" 306 (.ref 104),
 kE P "gathered" 320 (.ref 111),
 kE P "LowReader" 423 (.ref 192),
 kE P "BackReader" 487 (.ref 241),
 kE P "LONGEST_zhuff" 491 (.int 11 490),
 kE P "MOST_SYMBOLS" 493 (.int 256 492),
 kE P "used_symbols" 499 (.ref 250),
 kE P "check_code" 509 (.ref 257),
 kE P "HuffTable" 584 (.ref 307),
 kE P "decode_stream" 596 (.ref 318),
 kE P "LONGEST_prefix" 600 (.int 15 599),
 kE P "counts_by_length" 610 (.ref 325),
 kE P "room_of" 619 (.ref 332),
 kE P "check_lengths" 631 (.ref 340),
 kE P "greatest_length" 640 (.ref 347),
 kE P "first_codes" 651 (.ref 354),
 kE P "canonical" 661 (.ref 361),
 kE P "by_length" 674 (.ref 368),
 kE P "PrefixReader" 720 (.ref 393),
 kE P "_law_box" 732 (.ref 404),
 kE P "_law_take" 741 (.ref 411),
 kE P "_law_lengths" 754 (.ref 418),
 kE P "_law_near" 765 (.ref 425),
 kE P "_law_whole" 771 (.ref 430),
 kE P "_law_lets" 778 (.ref 437),
 kE P "_law_codes_right" 784 (.ref 442),
 kE P "_law_laid" 790 (.ref 447),
 kE P "_law_till_cut" 803 (.ref 454),
 kE P "_law_decoded" 812 (.ref 461),
 kE P "_law_read_right" 818 (.ref 466),
 kE P "law" 824 (.ref 471)]
noncomputable def CF:List Value:=[.int 1 0,.int 0 0,.ref 20,.int 5 0,.int 0 0,.ref 27,.int 10 0,.int 0 0,.ref 48,.int 12 0,.int 0 0,.ref 60,.int 14 0,.int 0 0,.ref 72,.int 16 0,.int 0 0,.ref 84,.int 19 0,.int 0 0,.ref 96,.int 22 0,.int 0 0,.ref 103,.int 27 0,.int 0 0,.ref 110,.int 35 0,.int 0 0,.ref 117,.int 80 0,.int 0 0,.ref 202,.int 111 0,.int 0 0,.ref 249,.int 113 0,.int 0 0,.ref 256,.int 129 0,.int 0 0,.ref 263,.int 171 0,.int 0 0,.ref 317,.int 183 0,.int 0 0,.ref 324,.int 192 0,.int 0 0,.ref 331,.int 197 0,.int 0 0,.ref 339,.int 209 0,.int 0 0,.ref 346,.int 215 0,.int 0 0,.ref 353,.int 222 0,.int 0 0,.ref 360,.int 232 0,.int 0 0,.ref 367,.int 244 0,.int 0 0,.ref 374,.int 263 0,.int 0 0,.ref 403,.int 270 0,.int 0 0,.ref 410,.int 277 0,.int 0 0,.ref 417,.int 287 0,.int 0 0,.ref 424,.int 307 0,.int 0 0,.ref 429,.int 311 0,.int 0 0,.ref 436,.int 319 0,.int 0 0,.ref 441,.int 330 0,.int 0 0,.ref 446,.int 339 0,.int 0 0,.ref 453,.int 348 0,.int 0 0,.ref 460,.int 353 0,.int 0 0,.ref 465,.int 377 0,.int 0 0,.ref 470]
noncomputable def LH (P:Params) (x:String) (t:Tok) (n m:Nat) (l:List Obj):Heap:=⟨⟨boot_o_0 P :: boot_o_1 P :: boot_o_2 P :: dc (kE P "__name__" 165 (.str x t) :: (GE P).take n) (n + 1) :: boot_o_4 P :: boot_o_5 P :: boot_o_6 P :: boot_o_7 P :: boot_o_8 P :: boot_o_9 P :: boot_o_10 P :: e0 :: fd .none (CF.take m) :: l⟩,(boot_heap P).life⟩
noncomputable def Z0 (w:World) (os:OsState):Shared:=⟨boot_heap w.params,⟨[]⟩,boot_drawn,boot_toks,os⟩
noncomputable def ZA (w:World) (os:OsState):Shared:=⟨LH w.params "__main__" 164 8 0 ((L1 w.params).take 2),⟨[]⟩,boot_drawn,187,os⟩
noncomputable def HH1 (P:Params):Heap:=LH P "threepress.errors" 194 14 18 (L1 P)
noncomputable def Z1 (w:World) (os:OsState):Shared:=⟨HH1 w.params,⟨[]⟩,boot_drawn,288,os⟩
noncomputable def HH2 (P:Params):Heap:=LH P "threepress.bits" 288 18 30 (L1 P ++ (L2 P))
noncomputable def Z2 (w:World) (os:OsState):Shared:=⟨HH2 w.params,⟨[]⟩,boot_drawn,424,os⟩
noncomputable def HH3 (P:Params):Heap:=LH P "threepress.bits" 288 19 33 (L1 P ++ (L2 P ++ (L3 P)))
noncomputable def Z3 (w:World) (os:OsState):Shared:=⟨HH3 w.params,⟨[]⟩,boot_drawn,488,os⟩
noncomputable def HH4 (P:Params):Heap:=LH P "threepress.zhuff" 488 24 42 (L1 P ++ (L2 P ++ (L3 P ++ (L4 P))))
noncomputable def Z4 (w:World) (os:OsState):Shared:=⟨HH4 w.params,⟨[]⟩,boot_drawn,585,os⟩
noncomputable def HH5 (P:Params):Heap:=LH P "threepress.prefix" 597 34 69 (L1 P ++ (L2 P ++ (L3 P ++ (L4 P ++ (L5 P)))))
noncomputable def Z5 (w:World) (os:OsState):Shared:=⟨HH5 w.params,⟨[]⟩,boot_drawn,721,os⟩
noncomputable def HH6 (P:Params):Heap:=LH P "law_tg0039_01" 721 46 105 (L1 P ++ (L2 P ++ (L3 P ++ (L4 P ++ (L5 P ++ (L6 P))))))
noncomputable def Z6 (w:World) (os:OsState):Shared:=⟨HH6 w.params,⟨[]⟩,boot_drawn,825,os⟩
noncomputable def asK:List Addr:=[2,3,29,35,36,38,39,51,52,63,64,75,76,87,88,96,97,103,104,110,111,119,125,126,132,133,139,140,146,147,153,154,160,161,191,192,209,210,216,217,223,224,230,231,240,241,249,250,256,257,268,269,275,276,282,283,306,307,317,318,324,325,331,332,333,339,340,346,347,353,354,360,361,367,368,376,382,383,389,390,392,393,403,404,410,411,417,418,424,425,429,430,436,437,441,442,446,447,453,454,460,461,465,466,470,471]
noncomputable def KF (P:Params):Frag:=asK.map fun a=>(a,(HH6 P).objs.toList.getD a default)
noncomputable def stm (i:Nat):Stmt:=PySem.Challenge.pw_tg0039_01.main.body[i]!
noncomputable def qv:Program:={ PySem.Challenge.pw_tg0039_01 with main:={ PySem.Challenge.pw_tg0039_01.main with body:=[stm 0,stm 2,stm 3,stm 4,stm 5,stm 6,stm 8,stm 9,stm 10,stm 11,stm 12,stm 14,stm 15,stm 16,stm 17,stm 18,stm 19,stm 21,stm 22,stm 23,stm 25,stm 26,stm 27,stm 28,stm 29,stm 31,stm 32,stm 33,stm 34,stm 35,stm 36,stm 37,stm 38,stm 39,stm 40,stm 41,stm 42] } }
noncomputable def lv:List Str:=["PressError", "check_lengths", "PrefixReader"]
noncomputable def HK:Hook:=kmHook KF asK (fun zz=>by kernel_rfl) [439]
set_option maxHeartbeats 8000000
noncomputable abbrev pr:Program:=PySem.Challenge.rw_tg0039_01.row.prog
noncomputable def ev:Env:={ scope:=pr.main.scope,locals:=mainNs,globals:=mainNs,cells:=[],code:=.ref 13,frame:=some 14 }
noncomputable def bo (i n:Nat):List Stmt:=(pr.main.body.drop i).take n
noncomputable def cE:Code:=.body (behindTheImports pr) ev
noncomputable abbrev an:Option Value:=some (.ref 6)
noncomputable abbrev z0:Pos:=⟨0,0,0,0⟩
noncomputable abbrev pw (l:List Stmt) (p:Pos):Thread:=piecesOf l ev cE p [topFrame z0]
set_option maxHeartbeats 8000000
theorem g0 (w:World) (os:OsState):topGo treeTable pr w 11 an 12 (Z0 w os) (topStub pr) = some (ZA w os,⟨denote treeTable cE,cE,z0,[topFrame z0]⟩):=by kernel_rfl
theorem gb (w:World) (os:OsState):segRun treeTable pr w 11 an 1 1 (ZA w os) (blockOf (behindTheImports pr) ev cE z0 [topFrame z0]) = some (.next,ZA w os,cE,z0):=by kernel_rfl
set_option maxHeartbeats 8000000
theorem g1 (w:World) (os:OsState):segRun treeTable pr w 11 an 1 1111 (ZA w os) (pw (bo 0 7) z0) = some (.next,Z1 w os,cE,⟨16,0,17,8⟩):=by kernel_rfl
set_option maxHeartbeats 8000000
theorem g2 (w:World) (os:OsState):segRun treeTable pr w 11 an 1 620 (Z1 w os) (pw (bo 7 5) ⟨16,0,17,8⟩) = some (.next,Z2 w os,cE,⟨35,0,79,37⟩):=by kernel_rfl
set_option maxHeartbeats 8000000
theorem g3 (w:World) (os:OsState):segRun treeTable pr w 11 an 1 354 (Z2 w os) (pw (bo 12 1) ⟨35,0,79,37⟩) = some (.next,Z3 w os,cE,⟨80,0,107,20⟩):=by kernel_rfl
set_option maxHeartbeats 8000000
theorem g4 (w:World) (os:OsState):segRun treeTable pr w 11 an 1 472 (Z3 w os) (pw (bo 13 6) ⟨80,0,107,20⟩) = some (.next,Z4 w os,cE,⟨129,0,170,16⟩):=by kernel_rfl
set_option maxHeartbeats 8000000
theorem g5 (w:World) (os:OsState):segRun treeTable pr w 11 an 1 550 (Z4 w os) (pw (bo 19 11) ⟨129,0,170,16⟩) = some (.next,Z5 w os,cE,⟨244,0,261,46⟩):=by kernel_rfl
set_option maxHeartbeats 8000000
theorem g6 (w:World) (os:OsState):segRun treeTable pr w 11 an 1 366 (Z5 w os) (pw (bo 30 13) ⟨244,0,261,46⟩) = some (.next,Z6 w os,cE,⟨377,0,385,50⟩):=by kernel_rfl
set_option maxHeartbeats 8000000
theorem ge (w:World) (os:OsState):topRun treeTable pr w 11 an 2 (Z6 w os) ⟨doneF .next,cE,⟨377,0,385,50⟩,[topFrame z0]⟩ = some (Z6 w os):=by kernel_rfl
end Mine
namespace Mine
open _root_.PySem _root_.PySem.W _root_.PySem.Calls PyProof.Rows
theorem caller_clean:Clean (⟨.builtin "claim.caller" {},none,none,[],none⟩:Ctx):=⟨by show (!(PySem.Builtin.Bytes.decodersThatHold.contains "claim.caller") && !(guardIds.contains "claim.caller")) = true;decide +kernel,fun x hx=>nomatch hx⟩
theorem thread_endsN {prog:Program} {w:World} {t:Sem Fin} {s:Shared} {R:Result -> Shared -> Prop} (hreg:s.asleep)
    (h:wpN (model prog w) callerA t (fun fin s'=>∃ f,fin = .done f /\ (R (.ok f) s' /\ leftWithCleanup s'.gens = false)) (fun e s'=>R (.error e) s' /\ leftWithCleanup s'.gens = false) s) :
    ∃ n r s' s'',runN (denote table) prog w n s ⟨t,.builtin "claim.caller" {},default,[]⟩ = .halted (outcomeOf r) s' /\
      schedN (denote table) prog w n (.single s ⟨t,.builtin "claim.caller" {},default,[]⟩) = .halted (outcomeOf r) s' /\ s'.forget = s''.forget /\ R r s'':=by
  have hw:Sem.wp (model prog w) (⟨.builtin "claim.caller" {},none,none,[],none⟩:Ctx) t (Sem.finPost (model prog w) ⟨.builtin "claim.caller" {},none,none,[],none⟩ fun r s'=>R r s' /\ leftWithCleanup s'.gens = false) (fun e zz s'=>R (.error e) s' /\ leftWithCleanup s'.gens = false) default s:=by
    refine Sem.wp_mono _ _ t (fun fin p' s' h'=>?_) (fun zz zz zz h'=>h') default s (h _ default caller_in caller_clean)
    refine xA1_1 h' ?_;(try clear h');intro f hT658r;subst hT658r;intro hf
    exact hf
  refine xA4_3 (wp_halts_full (M:=model prog w) (R:=R) hreg hw) ?_;intro n r s₁ s₂ hs hn hfo hR
  exact ⟨n,r,s₂,s₁,hn,hs,hfo,hR⟩
theorem or_out {r:Result} {A D D' W F F':Prop} {B S:Value -> Prop} {E1:Addr -> Obj -> Prop} {E2:ExcName -> Obj -> Prop} {E3:ExcName -> Prop} {E4:Addr -> Prop}
    (h:(∃ v,r = .ok (.ret v) /\ A /\ B v /\ S v /\ D /\ W) ∨ ∃ e ob cls,r = .error (.ref e) /\ E1 e ob /\ E2 cls ob /\ E3 cls /\ E4 e /\ F) (k:D -> D') (l:F -> F') :
    (∃ v,outcomeOf r = .done (.ret v) /\ A /\ B v /\ S v /\ D' /\ W) ∨ ∃ e ob cls,outcomeOf r = .uncaught (.ref e) /\ E1 e ob /\ E2 cls ob /\ E3 cls /\ E4 e /\ F' :=
  h.imp (Exists.imp fun zz=>And.imp (congrArg outcomeOf) (And.imp_right (And.imp_right (And.imp_right (And.imp_left k)))))
    (Exists.imp fun zz=>Exists.imp fun zz=>Exists.imp fun zz=>And.imp (congrArg outcomeOf) (And.imp_right (And.imp_right (And.imp_right (And.imp_right l)))))
theorem callFromN {c:ClaimW} {tree:List Value -> Sem Fin} {w:World} {s:Shared} {free:Addr -> Prop} {gens:Prop} {kept:Heap -> Prop} (hz:s.asleep) (hgens:s.gens = #[])
    (hspec:∀ args,c.pre args = true -> WData.layableAll args = true -> ∀ ord:List DictEntry -> List DictEntry,(∀ l,(ord l).Perm l) ->
      ∃ vs s₁,layAllW c.records (classAt s.heap) w.params ord args s = some (vs,s₁) /\
        wpN (model c.prog w) callerA (tree vs) (fun fin s'=>∃ f,fin = .done f /\ (c.Ends s args vs s₁ (.ok f) s' /\ s'.os = s.os /\ AllBare s'.gens /\ kept s'.heap))
          (fun e s'=>c.Ends s args vs s₁ (.error e) s' /\ s'.os = s.os /\ AllBare s'.gens /\ kept s'.heap) s₁) :
    c.CallFrom (fun vs=>⟨tree vs,.builtin "claim.caller" {},default,[]⟩) w free gens kept s:=fun args hpre hlay ord hord=>by
  refine xA2_1 (hspec args hpre hlay ord hord) ?_;intro vs s₁ hlaid hcode
  have hal:=layAllW_rest _ _ _ hlaid
  refine xA4_5 (thread_endsN (prog:=c.prog) (w:=w) (t:=tree vs) (s:=s₁) (R:=fun r s'=>c.Ends s args vs s₁ r s' /\ s'.os = s.os /\ kept s'.heap)
    (Shared.asleep_of_life hal.2.2.2 hz)
    (n_mono hcode (fun fin s' hT1=>xA1_0 hT1 fun f hT2=>xA0_4 hT2 fun e h1 h2 h3 h4=>⟨f,e,xI0_2 h1 h2 h4,leftWithCleanup_false_of_bare h3⟩) fun e s' hT1=>xA0_3 hT1 fun h1 h2 h3 h4=>⟨xI0_2 h1 h2 h4,leftWithCleanup_false_of_bare h3⟩)) ?_
  intro k r s' s'' hrun hsched hfo hcase hos hkp
  refine xA0_4 (Shared.forget_eq hfo) ?_;intro eh _ _ eo _
  exact ⟨vs,s₁,hlaid,k,_,s',hsched,or_out (hcase.congr eh) (fun h b o y zz=>h b o y) (fun h b o y zz=>h b o y),(fun zz i x hx=>by rw [hgens] at hx;exact nomatch hx),eh ▸ hkp,by rw [(runN_life _ _ _ hrun).trans hal.2.2.2],Shared.rest_eq (eo.trans hos)⟩
noncomputable abbrev WalkClean (q:Program) (loose:List Str) (XP:(Str -> Option Value) -> Heap -> Prop) (YP:World -> Heap -> Prop) (r:RowW) (d:DefRec) (kwd:List (Str × Expr)):Prop :=
  ∀ (w:World) (s₀ s₁:Shared) (mg mb:Str -> Option Value),Ground q loose r.records XP w s₀ mg mb s₁.heap -> YP w s₁.heap -> ∀ (a:Addr) (o:Obj) (pm cd doc dV kV:Value),s₁.heap.get? a = some o ->
    o.data = .func { docDef d.name d.params d.body d.scope pm cd doc with defaults:=dV,kwdefaults:=kV } -> s₁.heap.CodeRec cd d.name -> Dflts mg s₁.heap d.params kwd dV kV -> mg d.name = some (.ref a) -> s₁.gens = #[] ->
    ∀ (args:List WData) (vals:List Value) (as:List Addr),r.claim.pre args = true -> WData.layableAll args = true -> ReadsAllW r.records (classAt s₀.heap) s₁.heap vals args as -> WellAll w.params s₁.heap vals args -> (∀ a ∈ as,(a == sysModules) = false) ->
      wpN (model r.prog w) callerA (call (.ref a) vals) (fun v s'=>GoodWG r.claim (classAt s₀.heap) (ExcName.means s₀.heap) args s₁ (.ok (.ret v)) s')
        (fun e s'=>GoodWG r.claim (classAt s₀.heap) (ExcName.means s₀.heap) args s₁ (.error e) s') s₁
theorem holdsN {r:OpenRow} {q:Program} {loose:List Str} {Xt:Shared -> Bool} {XP:(Str -> Option Value) -> Heap -> Prop} {α:Type} {Yf:Shared -> α} {Ya:World -> α} {YP:World -> Heap -> Prop} {d:DefRec} {kwd:List (Str × Expr)} {N:Nat}
    (left:LeftO r.prog q loose Xt Yf Ya N) (hY:∀ w s,Yf s = Ya w -> YP w s.heap) (hYk:∀ w h h',YP w h -> (∀ b o,h.get? b = some o -> h'.get? b = some o) -> YP w h')
    (hX:∀ s,Xt s = true -> XP (s.heap.nsMap mainGlobals) s.heap) (hXk:∀ mg h h',XP mg h -> (∀ b o,h.get? b = some o -> h'.get? b = some o) -> XP mg h')
    (hdef:defOf q r.name = some (d,kwd)) (hp:r.prog.theDef r.name = some (d.params,d.body,d.scope)) (hk:kwWritten? d.params.kwonlyargs d.params.kw_defaults = some kwd) (hRf:∀ s,Xt s = true -> RecFacts r.records s.heap) (hwr:(!r.writes || r.records.isEmpty) = true)
    (k1:r.wellSaid = true) (ok:(chainsOk q && opensWell r.prog && (frees r.toRowW && r.within.isEmpty)) = true) (hb:r.prog.bare) (hw:r.toRowW.promised)
    (walk:WalkClean q loose XP YP r.toRowW d kwd):r.Holds:=by
  refine xA0_1 (Bool.and_eq_true_iff.mp ok) ?_;intro ok k5
  refine xA0_1 (Bool.and_eq_true_iff.mp ok) ?_;intro hch o1
  refine xA0_1 (Bool.and_eq_true_iff.mp k5) ?_;intro k5 k6
  refine xA0_4 (frees_parts k5) ?_;intro hsame hu ha hap hm
  refine ⟨k1,hw,⟨hb,o1,by show r.makers.map _ = [];rw [hm];rfl⟩,hw.witness,fun w=>⟨(left.behind hX hch w).1,fun s' hs'=>?_⟩⟩
  refine xA1_2 ((left.behind (XP:=fun mg h=>XP mg h /\ RecFacts r.records h) (fun s hs=>⟨hX s hs,hRf s hs⟩) hch w).2 s' hs') ?_;intro s₀ hf hg0 hT656;refine xA1_0 hT656 ?_;(try clear hT656);intro s hT657;refine xA0_5 hT657 ?_;(try clear hT657);intro hT hz hgens hg G00 y
  have G0:Ground q loose [] XP w s (s.heap.nsMap mainGlobals) (s.heap.nsMap builtinsNs) s.heap:=⟨G00.T,G00.B,G00.D,G00.TE,G00.TD,G00.W,G00.X.1,G00.cls,G00.has,G00.apart,G00.once,G00.K⟩
  have RF:=G00.X.2
  have hT':=hT
  refine ⟨s₀,hf,hg0,s,hT,fun n hn=>?_,RF.1,RF.2.1,?_⟩
  · obtain rfl:n = r.name:=by split at hn <;> simp_all
    exact pinned_of_view hg G0 hdef hp hk
  have hgens:s.gens = #[]:=Array.eq_empty_of_size_eq_zero (beq_iff_eq.mp hgens)
  have G:Ground q loose r.records XP w s _ _ s.heap:=RF.ground G0
  refine callFromN (c:=r.toRowW.claim) (tree:=fun vs=>do match <- nsGet mainNs r.name with
      | some f => do ret (<- PySem.call f vs)
      | none => unsupported "claim.caller:no-such-global") hz hgens fun args hpre hlay ord hord=>?_
  refine xA1_0 (Option.isSome_iff_exists.mp (layAllW_isSome (P:=w.params) (ord:=ord) G.has args r.args s (pre_splitW hpre).1)) ?_;intro hT655 hlaid;obtain ⟨vs,s₁⟩:=hT655
  have keeps:=layAllW_keeps _ _ _ hlaid
  have hal:=layAllW_rest _ _ _ hlaid
  refine xA1_2 (reads_layAllW hord _ _ _ hlaid hlay s₁.heap (fun zz zz e=>e)) ?_;intro as hrd hin hold
  have L:Laid r.records w s s₁ args vs as:=⟨⟨ord,hord,hlaid⟩,hrd,hin,hold,keeps,hal.1.trans hgens,hal.2.2.1⟩
  have G₁:=G.keeps hXk keeps
  refine xA7_0 (G₁.fn hdef) ?_;intro a o pm cd doc dV kV hT654;refine xA0_4 hT654 ?_;(try clear hT654);intro h1 h2 h3 h4 h5
  have h:=walk w s s₁ _ _ G₁ (hYk _ _ _ (hY w s y) keeps) a o pm cd doc dV kV h2 h3 h4 h5 (defOf_name hdef ▸ h1) L.gens args vs as hpre hlay L.reads L.well (L.low G.low)
  have hi:=ident_freeW hu ha hap
  have hwi:r.toRowW.claim.within = []:=List.isEmpty_iff.mp k6
  refine ⟨vs,s₁,hlaid,n_bind (n_of (wpAny_nsGet G₁.T.g ?_))⟩
  rw [h1]
  refine n_bind (n_mono h (fun v s' g=>n_pure ⟨_,rfl,?_⟩) fun e s' g=>?_)
  all_goals
    have z:=g.laid (c:=r.toRowW.claim) hsame hwi hi L
    exact ⟨z.1,z.2.1,z.2.2,fun q=>⟨namesKept_of hT' hg _ keeps g.2.1.old,noTable hwr q⟩⟩
set_option maxHeartbeats 8000000
theorem hb:behindTheImports pr = bo 0 7 ++ (bo 7 5 ++ (bo 12 1 ++ (bo 13 6 ++ (bo 19 11 ++ (bo 30 13 ++ []))))):=by kernel_rfl
theorem hrun (w:World) (os:OsState):topRun treeTable pr w 11 an (12 + (1 + (1111 + (620 + (354 + (472 + (550 + (366 + 2)))))))) (Z0 w os) (topStub pr) = some (Z6 w os):=by
  have k:=piece_app (g1 w os) (piece_app (g2 w os) (piece_app (g3 w os) (piece_app (g4 w os) (piece_app (g5 w os) (piece_app (g6 w os) (piece_nil (env:=ev) (ge w os)))))))
  rw [<- hb] at k
  exact go_top (g0 w os) (piece_block (gb w os) k)
set_option maxHeartbeats 8000000
noncomputable abbrev xT (s:Shared):Bool:=xlAt qv [] s && recOk (RowW.records PySem.Challenge.rw_tg0039_01.row.toRowW) s
theorem looks1 (w:World) (os:OsState):(staticsOk (importedModules pr.main.body) (boot_heap w.params) (HH6 w.params) && namesBound pr (HH6 w.params) && gensDone (Z6 w os) && laidKept (boot_heap w.params) (HH6 w.params)) = true:=by kernel_rfl
theorem looks2 (w:World) (os:OsState):openSeen qv lv (importedModules pr.main.body) xT true (Z6 w os) = openGood qv lv:=by kernel_rfl
theorem looks3 (w:World) (os:OsState):HK.obs (Z6 w os) = HK.val w:=by kernel_rfl
theorem hsize (w:World):((boot_heap w.params).isNs mainGlobals && (Array.mk []:Array GenState).size == 0,(boot_heap w.params).objs.size,(boot_heap w.params).nsMap mainGlobals "__annotations__") = (true,11,an):=by kernel_rfl
theorem hopen:∀ w:World,(fencedOpening treeTable pr w 7060).map (fun s=>(s.heap,s.gens,s.drawn,s.toks)) = some (boot_heap w.params,Array.mk [],boot_drawn,boot_toks):=boot_open (by kernel_rfl) (by rfl) (fun s=>by kernel_rfl)
set_option maxHeartbeats 8000000
theorem hleft:LeftO pr qv lv xT HK.obs HK.val 7060 :=
  LeftO.of_pieces hopen hsize hrun (by rfl) fun w=>funext fun os=>congr (congrArg Prod.mk (looks1 w os)) (congr (congrArg Prod.mk (looks2 w os)) (looks3 w os))
set_option maxHeartbeats 8000000
noncomputable abbrev lw:OpenLaw:=PySem.Challenge.rw_tg0039_01
theorem and_i {a b:Bool} (h:a = true) (k:b = true):(a && b) = true:=by rw [h,k];rfl
theorem hs1:(sreFenced pr.main && ((moduleNames pr.main.body).isEmpty || lookedIntoSs (moduleNames pr.main.body) pr.main.body)) = true:=by kernel_rfl
theorem hs2:namesResolve pr = true:=by kernel_rfl
theorem hs3:(pr.boundNames.all (fun n=>!worldNames.contains n)) = true:=by kernel_rfl
theorem hs4:noRoadLSs { strict:=!(importedModules pr.main.body).all cThrough.contains,foot:=none,bare:=(["vars", "dir", "locals"]:List Str).filter (readsOut pr pr.main.body) } pr.main.body = true:=by kernel_rfl
theorem hs5:(namesMeet pr pr.main.body fun zz n=>attrL n) = true:=by kernel_rfl
theorem hs6:looksOpen pr = true:=and_i (and_i (and_i (and_i hs1 hs2) hs3) hs4) hs5
theorem ho1 {r:OpenRow} (h:looksOpen r.prog = true) (k:((fun b:Bool=>b && r.loose.isEmpty && r.makers.isEmpty &&
  (r.records.isEmpty || r.raises.all fun ct=>ct.1 != .builtin "AttributeError" && ct.1 != .builtin "TypeError") &&
  (r.raises.all fun ct=>match ct.1 with | .builtin n=>!r.prog.boundNames.contains (Str.ofString n) && !ofTheWorld.contains n | .own _=>true) &&
  decide (r.records.map (·.1)).Nodup && (r.records.all fun x=>!x.1.opensWith "__" && !builtinNamed x.1 && r.prog.boundNames.contains x.1 && x.2.all fun f=>!f.1.opensWith "__") &&
  r.toRowW.solid && r.pre.litsOk && r.post.litsOk && r.raises.all (·.2.litsOk) &&
  r.mutates.all (fun i=>match r.args[i]? with
    | some sh => !sh.arms.any WShape.isObj
    | none => false) &&
  r.within.all (fun i=>decide (i < r.args.length)) && r.same.all (fun i=>decide (i < r.args.length)) && r.prog.boundNames.contains r.name && !startupNames.contains r.name) true) = true):r.wellSaid = true:=by
  unfold OpenRow.wellSaid OpenRow.partSaid
  rw [h]
  exact k
theorem hs7:lw.row.wellSaid = true:=ho1 hs6 (by kernel_rfl)
theorem hw1 {l:OpenLaw} (h:l.row.wellSaid = true) (k:((fun b:Bool=>b && decide (l.foot <= (behindTheImports l.prog).length) && l.footing.all footLine && noClassBlock l.prog l.footing &&
  l.most.all (fun n=>decide (63 <= n)) && l.bound.all (fun n=>decide (2 ^ 63 <= n)) &&
  noRoadLSs { strict:=true,foot:=some l.bound',writes:=l.writes,may:=l.may } l.footing &&
  defStands l.about l.above && l.namesIt &&
  (["type", "isinstance", "issubclass", "getattr", "hasattr"]:List Str).all (fun n=>l.about != [n]) && l.bound'.all (fun n=>!builtinNamed n || l.about == [n] || !l.reads n) && (!l.writes || (l.prog.main.body.flatMap importedNames).all fun n=>!l.reads n) && (l.prog.main.body.flatMap importedNames).all (fun n=>!l.reads n || (drawsOf n l.prog.main.body).all fun mn=>mn.2 != ("attrgetter" : Str) && mn.2 != ("methodcaller" : Str)) &&
  namesMeet l.prog l.footing (fun sc n=>(!(["type", "isinstance", "issubclass", "getattr", "hasattr"]:List Str).contains n || sc.names.lookup n == some .globalImplicit) &&
    (l.may != some n || sc.kind == .module || sc.names.lookup n == some .globalImplicit)) &&
  l.own.contains l.name && l.own.eraseDups.length == l.own.length && l.own.all (fun n=>!builtinNamed n) &&
  namesMeet l.prog l.above (fun zz n=>!l.own.contains n) && namesMeet l.prog l.footing fun sc n=>sc.kind == .module || sc.names.lookup n != some .globalExplicit) true) = true):l.wellSaid = true:=by
  unfold OpenLaw.wellSaid
  rw [h]
  exact k
theorem hsaid:lw.wellSaid = true:=hw1 hs7 (by kernel_rfl)
theorem hcc:(chainsOk qv && opensWell pr && (frees PySem.Challenge.rw_tg0039_01.row.toRowW && PySem.Challenge.rw_tg0039_01.row.within.isEmpty)) = true:=by decide +kernel
set_option maxHeartbeats 4000000
noncomputable def qOf (K:Frag) (ca:Addr):Option Str:=(K.lookup ca).bind fun o=>match o.data with
  | .fields vs => match vs[1]? with
    | some (Value.str s _) => some s
    | _ => none
  | _ => none
noncomputable def pmOf (K:Frag) (fa:Addr):Value:=match K.lookup fa with
  | some ⟨_,_,.func f,_⟩ => f.pyModule
  | _ => .none
noncomputable def dfOf (K:Frag) (T:Addr):Option (Array Value):=(K.lookup T).bind fun o=>match o.data with
  | .seq xs _ => some xs
  | _ => none
theorem recO {K:Frag} {t:FnTxt} {fa ca:Addr} {n q:String} {dV:Value} (h:(K.lookup fa,qOf K ca) = (some (fO t n q dV (pmOf K fa) ca),some (Str.ofString q))):RecC K t fa n q dV ca:=by
  injection h with h1 h2
  unfold qOf at h2
  obtain ⟨o,h3,h4⟩:=Option.bind_eq_some_iff.mp h2
  split at h4
  · rename_i vs hd
    split at h4
    · rename_i s tt hv
      injection h4 with h4
      subst h4
      exact ⟨_,_,_,_,_,_,_,_,_,_,h1,h3,hd,hv⟩
    · cases h4
  · cases h4
theorem seqO {K:Frag} {T:Addr} {xs:Array Value} (h:dfOf K T = some xs):∃ k oT,K.lookup T = some oT /\ oT.data = .seq xs k:=by
  unfold dfOf at h
  obtain ⟨o,h3,h4⟩:=Option.bind_eq_some_iff.mp h
  split at h4
  · rename_i ys k hd
    injection h4 with h4
    subst h4
    exact ⟨k,o,h3,hd⟩
  · cases h4
theorem globO {K:Frag} {n:String} {i:Nat} (fa ca:Addr) (h:(nsIn K mainGlobals n,keepIn K (.ref fa)) = (some (some (.ref fa)),true)) (h':(K.lookup fa,qOf K ca) = (some (fO (topFn i) n n .none (pmOf K fa) ca),some (Str.ofString n))):GlobC K n i:=by
  injection h with h1 h2
  exact ⟨fa,ca,h1,h2,recO h'⟩
theorem methO {K:Frag} {C:Addr} {k:String} {f:Addr} (h:(findIn K (.ref C) "__getattribute__",findIn K (.ref C) "__getattr__",findIn K (.ref C) (Str.ofString k),typeIn K (.ref f),keepIn K (.ref f)) = (some (some (.builtin "object.__getattribute__")),some none,some (some (.ref f)),some (.type "function"),true)):MethK K C (Str.ofString k) f:=by
  simp only [Prod.mk.injEq] at h
  exact ⟨h.1,h.2.1,h.2.2.1,h.2.2.2.1,h.2.2.2.2⟩
theorem mthO {K:Frag} {C:Addr} {k q:String} {i j:Nat} (f ca:Addr) (h:(findIn K (.ref C) "__getattribute__",findIn K (.ref C) "__getattr__",findIn K (.ref C) (Str.ofString k),typeIn K (.ref f),keepIn K (.ref f)) = (some (some (.builtin "object.__getattribute__")),some none,some (some (.ref f)),some (.type "function"),true))
    (h':(K.lookup f,qOf K ca) = (some (fO (clsFn i j) k q .none (pmOf K f) ca),some (Str.ofString q))):MthC K C k q i j:=⟨f,ca,methO h,recO h'⟩
theorem clsO {K:Frag} {x:String} {C f:Addr} (h:(nsIn K mainGlobals x,keepIn K (.ref C),makesIn K C,findIn K (.ref C) "__init__",typeIn K (.ref f)) = (some (some (.ref C)),true,true,some (some (.ref f)),some (.type "function"))):ClsC K x C f:=by
  simp only [Prod.mk.injEq] at h
  exact ⟨h.1,h.2.1,h.2.2.1,h.2.2.2.1,h.2.2.2.2⟩
theorem defO {K:Frag} {t:FnTxt} {fa:Addr} {n q:String} {xs:Array Value} (T ca:Addr) (h:dfOf K T = some xs) (h':(K.lookup fa,qOf K ca) = (some (fO t n q (.ref T) (pmOf K fa) ca),some (Str.ofString q))):DefDC K t fa n q xs:=by
  obtain ⟨k,oT,h1,h2⟩:=seqO h
  exact ⟨T,k,oT,ca,h1,h2,recO h'⟩
theorem attrO {K:Frag} {C:Addr} {x:Str} (h:(plainGet K C x,hasDictIn K C,findIn K (.ref C) x,noGet K none,findIn K (.ref C) "__setattr__",plainOver K C,takerIn K C x) = (true,true,some none,true,some (some (.builtin "object.__setattr__")),true,some none)):AttrK K C x:=by
  simp only [Prod.mk.injEq] at h
  exact ⟨h.1,h.2.1,⟨none,h.2.2.1,h.2.2.2.1⟩,h.2.2.2.2.1,h.2.2.2.2.2.1,h.2.2.2.2.2.2⟩
theorem all2 {α:Type} {p:α -> Prop} {a b:α} (h:p a) (h':p b):∀ k ∈ [a,b],p k:=fun k hk=>by
  rcases List.mem_cons.mp hk with rfl | hk
  · exact h
  · rw [List.mem_singleton.mp hk];exact h'
theorem all3 {α:Type} {p:α -> Prop} {a b c:α} (h:p a) (h':p b) (h3:p c):∀ k ∈ [a,b,c],p k:=fun k hk=>by
  rcases List.mem_cons.mp hk with rfl | hk
  · exact h
  · exact all2 h' h3 k hk
theorem all4 {α:Type} {p:α -> Prop} {a b c d:α} (h:p a) (h':p b) (h3:p c) (h4:p d):∀ k ∈ [a,b,c,d],p k:=fun k hk=>by
  rcases List.mem_cons.mp hk with rfl | hk
  · exact h
  · exact all3 h' h3 h4 k hk
theorem nbO {K:Frag} (h:(bltNames.all fun x=>match nsIn K mainGlobals x with | some none=>true | _=>false) = true):∀ x ∈ bltNames,nsIn K mainGlobals x = some none:=fun x hx=>by
  have:=List.all_eq_true.mp h x hx
  split at this
  · assumption
  · cases this
theorem kchk (P:Params):KChk (KF P) where
  nb:=nbO (by kernel_rfl)
  nd:=by decide
  exc:=all4 ⟨⟨_,_,_,_,_,_,_,_,_,_,_,_,_,_,rfl⟩,by kernel_rfl,by kernel_rfl,by kernel_rfl,by kernel_rfl,by kernel_rfl⟩ ⟨⟨_,_,_,_,_,_,_,_,_,_,_,_,_,_,rfl⟩,by kernel_rfl,by kernel_rfl,by kernel_rfl,by kernel_rfl,by kernel_rfl⟩ ⟨⟨_,_,_,_,_,_,_,_,_,_,_,_,_,_,rfl⟩,by kernel_rfl,by kernel_rfl,by kernel_rfl,by kernel_rfl,by kernel_rfl⟩ ⟨⟨_,_,_,_,_,_,_,_,_,_,_,_,_,_,rfl⟩,by kernel_rfl,by kernel_rfl,by kernel_rfl,by kernel_rfl,by kernel_rfl⟩
  excI:=⟨.str "" 208,defO 29 35 (by kernel_rfl) (by kernel_rfl)⟩
  v_BadTable:=by kernel_rfl
  v_BadCode:=by kernel_rfl
  v_BadArgument:=by kernel_rfl
  v_CutShort:=by kernel_rfl
  v_MOST_SYMBOLS:=⟨492,by kernel_rfl⟩
  v_LONGEST_zhuff:=⟨490,by kernel_rfl⟩
  LRa:=all3 (attrO (by kernel_rfl)) (attrO (by kernel_rfl)) (attrO (by kernel_rfl))
  BRa:=all2 (attrO (by kernel_rfl)) (attrO (by kernel_rfl))
  HTa:=all4 (attrO (by kernel_rfl)) (attrO (by kernel_rfl)) (attrO (by kernel_rfl)) (attrO (by kernel_rfl))
  PRa:=all3 (attrO (by kernel_rfl)) (attrO (by kernel_rfl)) (attrO (by kernel_rfl))
  LRc:=⟨126,.int 0 333,clsO (by kernel_rfl),defO 119 125 (by kernel_rfl) (by kernel_rfl),by kernel_rfl⟩
  BRc:=⟨210,209,clsO (by kernel_rfl),recO (by kernel_rfl)⟩
  HTc:=⟨269,268,clsO (by kernel_rfl),recO (by kernel_rfl)⟩
  PRc:=⟨383,.int 15 599,.bool false,clsO (by kernel_rfl),defO 376 382 (by kernel_rfl) (by kernel_rfl),by kernel_rfl⟩
  LR_left:=mthO 133 132 (by kernel_rfl) (by kernel_rfl)
  LR_peek:=mthO 140 139 (by kernel_rfl) (by kernel_rfl)
  LR_skip:=mthO 147 146 (by kernel_rfl) (by kernel_rfl)
  LR_bits:=mthO 154 153 (by kernel_rfl) (by kernel_rfl)
  LR_bit:=mthO 161 160 (by kernel_rfl) (by kernel_rfl)
  BR_left:=mthO 217 216 (by kernel_rfl) (by kernel_rfl)
  BR_peek:=mthO 224 223 (by kernel_rfl) (by kernel_rfl)
  BR_skip:=mthO 231 230 (by kernel_rfl) (by kernel_rfl)
  HT_read:=mthO 276 275 (by kernel_rfl) (by kernel_rfl)
  HT_code:=mthO 283 282 (by kernel_rfl) (by kernel_rfl)
  PR_read:=mthO 390 389 (by kernel_rfl) (by kernel_rfl)
  need_count:=globO 97 96 (by kernel_rfl) (by kernel_rfl)
  end_of:=globO 104 103 (by kernel_rfl) (by kernel_rfl)
  gathered:=globO 111 110 (by kernel_rfl) (by kernel_rfl)
  used_symbols:=globO 250 249 (by kernel_rfl) (by kernel_rfl)
  check_code:=globO 257 256 (by kernel_rfl) (by kernel_rfl)
  decode_stream:=globO 318 317 (by kernel_rfl) (by kernel_rfl)
  counts_by_length:=globO 325 324 (by kernel_rfl) (by kernel_rfl)
  room_of:=globO 332 331 (by kernel_rfl) (by kernel_rfl)
  greatest_length:=globO 347 346 (by kernel_rfl) (by kernel_rfl)
  first_codes:=globO 354 353 (by kernel_rfl) (by kernel_rfl)
  canonical:=globO 361 360 (by kernel_rfl) (by kernel_rfl)
  by_length:=globO 368 367 (by kernel_rfl) (by kernel_rfl)
  lw_box:=globO 404 403 (by kernel_rfl) (by kernel_rfl)
  lw_take:=globO 411 410 (by kernel_rfl) (by kernel_rfl)
  lw_lengths:=globO 418 417 (by kernel_rfl) (by kernel_rfl)
  lw_near:=globO 425 424 (by kernel_rfl) (by kernel_rfl)
  lw_whole:=globO 430 429 (by kernel_rfl) (by kernel_rfl)
  lw_lets:=globO 437 436 (by kernel_rfl) (by kernel_rfl)
  lw_laid:=globO 447 446 (by kernel_rfl) (by kernel_rfl)
  lw_till_cut:=globO 454 453 (by kernel_rfl) (by kernel_rfl)
  lw_decoded:=globO 461 460 (by kernel_rfl) (by kernel_rfl)
  lw_read_right:=globO 466 465 (by kernel_rfl) (by kernel_rfl)
  check_lengths:=⟨340,.bool false,by kernel_rfl,by kernel_rfl,defO 333 339 (by kernel_rfl) (by kernel_rfl)⟩
  codesR:=⟨442,by kernel_rfl,by kernel_rfl,recO (by kernel_rfl)⟩
set_option maxHeartbeats 4000000
noncomputable def GG (w:World) (s:Shared) (mg mb:Str -> Option Value):Gl:={ prog:=_root_.PySem.Challenge.rw_tg0039_01.row.prog,w:=w,h₀:=ghostOf s.heap [(441,439)],P:=439,os:=s.os,K:=KF w.params,mg:=mg,mb:=mb,lams:=lamL }
theorem law_holds:_root_.PySem.Challenge.rw_tg0039_01.Holds:=by
  w_on
  refine holds_law hsaid fun said=>?_
  refine holdsN (q:=qv) (loose:=lv) (Xt:=xT) (XP:=XL qv []) (Yf:=HK.obs) (Ya:=HK.val) (YP:=HK.says) (N:=7060) hleft HK.of HK.keeps (fun s e=>xl_of s (Bool.and_eq_true_iff.mp e).1) XL.keeps (by rfl) (by rfl) (by rfl) (fun s e=>recFacts_of (Bool.and_eq_true_iff.mp e).2) (by rfl) said hcc ⟨rfl,rfl,rfl,rfl,rfl,by decide +kernel⟩ ?hw ?hc
  case hw=>w_witness2
  k_fill
  intro w s₀ s₁ mg mb Gd Y fa o pm cd doc dV kV ho hd hcd hD hmg hg args vals as hpre hlay hrd hwl hlo
  have KX:=km_in_of Y
  km_tabs Y
  have T:=Gd.T
  wrow_args hpre hlay hrd hwl hlo
  rename_i sc _ _ _ _ _ _ _ l vs _ hL _ _ _ hI _ hlen _
  have hT9:TabsAt [(441,439)] s₁.heap:=fun q hq=>by
    rw [List.mem_singleton] at hq
    subst hq
    exact ⟨codeHd_of_K KX (by kernel_rfl),hT8 439 (by simp)⟩
  have GO:GlOk (GG w s₁ mg mb):=by
    exact top_glok rfl rfl hT9 T KX (by kernel_rfl)
  have CH:CodeHd (GG w s₁ mg mb).h₀ 441 (GG w s₁ mg mb).P:=by
    exact (ghost_code hT9).1
  have FX:Facts (GG w s₁ mg mb):=facts_of GO (by rfl) CH (by exact kchk w.params)
  have F:Glob (GG w s₁ mg mb) "law" 42:=by
    refine GlobC.glob GO.kin GO.g ?_
    exact ⟨471,470,by kernel_rfl,by kernel_rfl,⟨_,_,_,_,_,_,_,_,_,_,rfl,rfl,rfl,rfl⟩⟩
  refine xA1_2 F ?_;(try clear F);intro fb hfb _ F
  have hfa:fb = fa:=by
    have h1:(GG w s₁ mg mb).mg "law" = some (.ref fa):=by exact hmg
    exact Value.ref.inj (Option.some.inj (hfb.symm.trans h1))
  subst hfa
  have hro:(GG w s₁ mg mb).h₀.IsList l vs.toArray:=by exact ghost_list hT9 hL
  have hxs:vs.toArray.toList.map er = sc.map V.int:=by rw [List.toList_toArray];exact ints_er hI
  have hvl:vs.length = sc.length:=by
    have:=congrArg List.length hxs
    simpa using this
  have hs63:sc.length <= 63:=by omega
  have hz:vs.toArray.size <= sizeLine:=by
    rw [List.size_toArray,hvl]
    exact Nat.le_trans hs63 (by decide)
  have top:=law_ok FX hro hxs hz (by omega) F s₁ (fun v zz=>v = .bool true) [.ref l] hg (by rfl) (by exact fun b y e=>of_hideAll _ e) (tab_init (by exact hT8 439 (by simp))) ⟨rfl,fun zz=>rfl⟩
  have hprog:model (GG w s₁ mg mb).prog (GG w s₁ mg mb).w = model _root_.PySem.Challenge.rw_tg0039_01.row.prog w:=by rfl
  rw [hprog] at top
  refine n_call (codeN_mono top ?_)
  intro r s' hT659;refine xA5_0 hT659 ?_;(try clear hT659);intro v c og H' ls' hT661;refine xA0_2 hT661 ?_;(try clear hT661);intro hT660r;subst hT660r;intro hst hv
  have hv':=er_bool hv
  subst hv'
  have hold:=old_of (by rfl) (by rfl) hT9 hst
  have hos:s'.os = s₁.os:=hst.os.trans (by rfl)
  have hgen:=hst.gens
  refine ⟨.inl ⟨.bool true,ofPy (.bool true),[],rfl,raisesW_false (by wrow_none_raised),?_,?_,?_⟩,hold,hos,.of_eq hgen⟩
  · exact readsW_of_reads (by constructor)
  · exact postW_of (by wrow_shape) (by wtm_val) (by str_meet;first | done | w_fin)
  · exact unshared_nil
end Mine
theorem PySem.Challenge.cw_tg0039_01_holds : PySem.Challenge.rw_tg0039_01.Holds := by
  exact Mine.law_holds
