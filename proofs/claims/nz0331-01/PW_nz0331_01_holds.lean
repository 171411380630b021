import PyProof.Rows.All
import Wide.All
import OpenK.AllK
import Wide.FinOn
import Lean
import PySem.Challenge.RW_nz0331_01
open PySem PySem.W PyProof.Rows PySem.Calls
set_option Elab.async false
set_option linter.all false
set_option maxHeartbeats 8000000
set_option genInjectivity false
set_option genSizeOfSpec false
set_option genSizeOf false
set_option maxRecDepth 100000
namespace Mine.Internal
theorem x0_2{p0 p1:Prop}{Z:Prop}(h:p0∧p1)(k:p0→p1→Z):Z:=h.elim λh0 h=>k h0 h
theorem x0_3{p0 p1 p2:Prop}{Z:Prop}(h:p0∧p1∧p2)(k:p0→p1→p2→Z):Z:=h.elim λh0 h=>h.elim λh1 h=>k h0 h1 h
theorem x0_4{p0 p1 p2 p3:Prop}{Z:Prop}(h:p0∧p1∧p2∧p3)(k:p0→p1→p2→p3→Z):Z:=h.elim λh0 h=>h.elim λh1 h=>h.elim λh2 h=>k h0 h1 h2 h
theorem x0_5{p0 p1 p2 p3 p4:Prop}{Z:Prop}(h:p0∧p1∧p2∧p3∧p4)(k:p0→p1→p2→p3→p4→Z):Z:=h.elim λh0 h=>h.elim λh1 h=>h.elim λh2 h=>h.elim λh3 h=>k h0 h1 h2 h3 h
theorem x0_6{p0 p1 p2 p3 p4 p5:Prop}{Z:Prop}(h:p0∧p1∧p2∧p3∧p4∧p5)(k:p0→p1→p2→p3→p4→p5→Z):Z:=h.elim λh0 h=>h.elim λh1 h=>h.elim λh2 h=>h.elim λh3 h=>h.elim λh4 h=>k h0 h1 h2 h3 h4 h
theorem x0_7{p0 p1 p2 p3 p4 p5 p6:Prop}{Z:Prop}(h:p0∧p1∧p2∧p3∧p4∧p5∧p6)(k:p0→p1→p2→p3→p4→p5→p6→Z):Z:=h.elim λh0 h=>h.elim λh1 h=>h.elim λh2 h=>h.elim λh3 h=>h.elim λh4 h=>h.elim λh5 h=>k h0 h1 h2 h3 h4 h5 h
theorem x0_8{p0 p1 p2 p3 p4 p5 p6 p7:Prop}{Z:Prop}(h:p0∧p1∧p2∧p3∧p4∧p5∧p6∧p7)(k:p0→p1→p2→p3→p4→p5→p6→p7→Z):Z:=h.elim λh0 h=>h.elim λh1 h=>h.elim λh2 h=>h.elim λh3 h=>h.elim λh4 h=>h.elim λh5 h=>h.elim λh6 h=>k h0 h1 h2 h3 h4 h5 h6 h
theorem x1_1{α0:Sort _}{p0:α0→Prop}{Z:Prop}(h:∃a0,p0 a0)(k:∀a0,p0 a0→Z):Z:=h.elim λa0 h=>k a0 h
theorem x1_2{α0:Sort _}{p0 p1:α0→Prop}{Z:Prop}(h:∃a0,p0 a0∧p1 a0)(k:∀a0,p0 a0→p1 a0→Z):Z:=h.elim λa0 h=>h.elim λh0 h=>k a0 h0 h
theorem x1_3{α0:Sort _}{p0 p1 p2:α0→Prop}{Z:Prop}(h:∃a0,p0 a0∧p1 a0∧p2 a0)(k:∀a0,p0 a0→p1 a0→p2 a0→Z):Z:=h.elim λa0 h=>h.elim λh0 h=>h.elim λh1 h=>k a0 h0 h1 h
theorem x1_4{α0:Sort _}{p0 p1 p2 p3:α0→Prop}{Z:Prop}(h:∃a0,p0 a0∧p1 a0∧p2 a0∧p3 a0)(k:∀a0,p0 a0→p1 a0→p2 a0→p3 a0→Z):Z:=h.elim λa0 h=>h.elim λh0 h=>h.elim λh1 h=>h.elim λh2 h=>k a0 h0 h1 h2 h
theorem x1_5{α0:Sort _}{p0 p1 p2 p3 p4:α0→Prop}{Z:Prop}(h:∃a0,p0 a0∧p1 a0∧p2 a0∧p3 a0∧p4 a0)(k:∀a0,p0 a0→p1 a0→p2 a0→p3 a0→p4 a0→Z):Z:=h.elim λa0 h=>h.elim λh0 h=>h.elim λh1 h=>h.elim λh2 h=>h.elim λh3 h=>k a0 h0 h1 h2 h3 h
theorem x1_6{α0:Sort _}{p0 p1 p2 p3 p4 p5:α0→Prop}{Z:Prop}(h:∃a0,p0 a0∧p1 a0∧p2 a0∧p3 a0∧p4 a0∧p5 a0)(k:∀a0,p0 a0→p1 a0→p2 a0→p3 a0→p4 a0→p5 a0→Z):Z:=h.elim λa0 h=>h.elim λh0 h=>h.elim λh1 h=>h.elim λh2 h=>h.elim λh3 h=>h.elim λh4 h=>k a0 h0 h1 h2 h3 h4 h
theorem x2_1{α0 α1:Sort _}{p0:α0→α1→Prop}{Z:Prop}(h:∃a0 a1,p0 a0 a1)(k:∀a0 a1,p0 a0 a1→Z):Z:=h.elim λa0 h=>h.elim λa1 h=>k a0 a1 h
theorem x2_2{α0 α1:Sort _}{p0 p1:α0→α1→Prop}{Z:Prop}(h:∃a0 a1,p0 a0 a1∧p1 a0 a1)(k:∀a0 a1,p0 a0 a1→p1 a0 a1→Z):Z:=h.elim λa0 h=>h.elim λa1 h=>h.elim λh0 h=>k a0 a1 h0 h
theorem x2_3{α0 α1:Sort _}{p0 p1 p2:α0→α1→Prop}{Z:Prop}(h:∃a0 a1,p0 a0 a1∧p1 a0 a1∧p2 a0 a1)(k:∀a0 a1,p0 a0 a1→p1 a0 a1→p2 a0 a1→Z):Z:=h.elim λa0 h=>h.elim λa1 h=>h.elim λh0 h=>h.elim λh1 h=>k a0 a1 h0 h1 h
theorem x2_4{α0 α1:Sort _}{p0 p1 p2 p3:α0→α1→Prop}{Z:Prop}(h:∃a0 a1,p0 a0 a1∧p1 a0 a1∧p2 a0 a1∧p3 a0 a1)(k:∀a0 a1,p0 a0 a1→p1 a0 a1→p2 a0 a1→p3 a0 a1→Z):Z:=h.elim λa0 h=>h.elim λa1 h=>h.elim λh0 h=>h.elim λh1 h=>h.elim λh2 h=>k a0 a1 h0 h1 h2 h
theorem x2_5{α0 α1:Sort _}{p0 p1 p2 p3 p4:α0→α1→Prop}{Z:Prop}(h:∃a0 a1,p0 a0 a1∧p1 a0 a1∧p2 a0 a1∧p3 a0 a1∧p4 a0 a1)(k:∀a0 a1,p0 a0 a1→p1 a0 a1→p2 a0 a1→p3 a0 a1→p4 a0 a1→Z):Z:=h.elim λa0 h=>h.elim λa1 h=>h.elim λh0 h=>h.elim λh1 h=>h.elim λh2 h=>h.elim λh3 h=>k a0 a1 h0 h1 h2 h3 h
theorem x3_1{α0 α1 α2:Sort _}{p0:α0→α1→α2→Prop}{Z:Prop}(h:∃a0 a1 a2,p0 a0 a1 a2)(k:∀a0 a1 a2,p0 a0 a1 a2→Z):Z:=h.elim λa0 h=>h.elim λa1 h=>h.elim λa2 h=>k a0 a1 a2 h
theorem x3_2{α0 α1 α2:Sort _}{p0 p1:α0→α1→α2→Prop}{Z:Prop}(h:∃a0 a1 a2,p0 a0 a1 a2∧p1 a0 a1 a2)(k:∀a0 a1 a2,p0 a0 a1 a2→p1 a0 a1 a2→Z):Z:=h.elim λa0 h=>h.elim λa1 h=>h.elim λa2 h=>h.elim λh0 h=>k a0 a1 a2 h0 h
theorem x3_3{α0 α1 α2:Sort _}{p0 p1 p2:α0→α1→α2→Prop}{Z:Prop}(h:∃a0 a1 a2,p0 a0 a1 a2∧p1 a0 a1 a2∧p2 a0 a1 a2)(k:∀a0 a1 a2,p0 a0 a1 a2→p1 a0 a1 a2→p2 a0 a1 a2→Z):Z:=h.elim λa0 h=>h.elim λa1 h=>h.elim λa2 h=>h.elim λh0 h=>h.elim λh1 h=>k a0 a1 a2 h0 h1 h
theorem x3_4{α0 α1 α2:Sort _}{p0 p1 p2 p3:α0→α1→α2→Prop}{Z:Prop}(h:∃a0 a1 a2,p0 a0 a1 a2∧p1 a0 a1 a2∧p2 a0 a1 a2∧p3 a0 a1 a2)(k:∀a0 a1 a2,p0 a0 a1 a2→p1 a0 a1 a2→p2 a0 a1 a2→p3 a0 a1 a2→Z):Z:=h.elim λa0 h=>h.elim λa1 h=>h.elim λa2 h=>h.elim λh0 h=>h.elim λh1 h=>h.elim λh2 h=>k a0 a1 a2 h0 h1 h2 h
theorem x3_5{α0 α1 α2:Sort _}{p0 p1 p2 p3 p4:α0→α1→α2→Prop}{Z:Prop}(h:∃a0 a1 a2,p0 a0 a1 a2∧p1 a0 a1 a2∧p2 a0 a1 a2∧p3 a0 a1 a2∧p4 a0 a1 a2)(k:∀a0 a1 a2,p0 a0 a1 a2→p1 a0 a1 a2→p2 a0 a1 a2→p3 a0 a1 a2→p4 a0 a1 a2→Z):Z:=h.elim λa0 h=>h.elim λa1 h=>h.elim λa2 h=>h.elim λh0 h=>h.elim λh1 h=>h.elim λh2 h=>h.elim λh3 h=>k a0 a1 a2 h0 h1 h2 h3 h
theorem x3_6{α0 α1 α2:Sort _}{p0 p1 p2 p3 p4 p5:α0→α1→α2→Prop}{Z:Prop}(h:∃a0 a1 a2,p0 a0 a1 a2∧p1 a0 a1 a2∧p2 a0 a1 a2∧p3 a0 a1 a2∧p4 a0 a1 a2∧p5 a0 a1 a2)(k:∀a0 a1 a2,p0 a0 a1 a2→p1 a0 a1 a2→p2 a0 a1 a2→p3 a0 a1 a2→p4 a0 a1 a2→p5 a0 a1 a2→Z):Z:=h.elim λa0 h=>h.elim λa1 h=>h.elim λa2 h=>h.elim λh0 h=>h.elim λh1 h=>h.elim λh2 h=>h.elim λh3 h=>h.elim λh4 h=>k a0 a1 a2 h0 h1 h2 h3 h4 h
theorem x4_2{α0 α1 α2 α3:Sort _}{p0 p1:α0→α1→α2→α3→Prop}{Z:Prop}(h:∃a0 a1 a2 a3,p0 a0 a1 a2 a3∧p1 a0 a1 a2 a3)(k:∀a0 a1 a2 a3,p0 a0 a1 a2 a3→p1 a0 a1 a2 a3→Z):Z:=h.elim λa0 h=>h.elim λa1 h=>h.elim λa2 h=>h.elim λa3 h=>h.elim λh0 h=>k a0 a1 a2 a3 h0 h
theorem x4_3{α0 α1 α2 α3:Sort _}{p0 p1 p2:α0→α1→α2→α3→Prop}{Z:Prop}(h:∃a0 a1 a2 a3,p0 a0 a1 a2 a3∧p1 a0 a1 a2 a3∧p2 a0 a1 a2 a3)(k:∀a0 a1 a2 a3,p0 a0 a1 a2 a3→p1 a0 a1 a2 a3→p2 a0 a1 a2 a3→Z):Z:=h.elim λa0 h=>h.elim λa1 h=>h.elim λa2 h=>h.elim λa3 h=>h.elim λh0 h=>h.elim λh1 h=>k a0 a1 a2 a3 h0 h1 h
theorem x4_4{α0 α1 α2 α3:Sort _}{p0 p1 p2 p3:α0→α1→α2→α3→Prop}{Z:Prop}(h:∃a0 a1 a2 a3,p0 a0 a1 a2 a3∧p1 a0 a1 a2 a3∧p2 a0 a1 a2 a3∧p3 a0 a1 a2 a3)(k:∀a0 a1 a2 a3,p0 a0 a1 a2 a3→p1 a0 a1 a2 a3→p2 a0 a1 a2 a3→p3 a0 a1 a2 a3→Z):Z:=h.elim λa0 h=>h.elim λa1 h=>h.elim λa2 h=>h.elim λa3 h=>h.elim λh0 h=>h.elim λh1 h=>h.elim λh2 h=>k a0 a1 a2 a3 h0 h1 h2 h
theorem x4_5{α0 α1 α2 α3:Sort _}{p0 p1 p2 p3 p4:α0→α1→α2→α3→Prop}{Z:Prop}(h:∃a0 a1 a2 a3,p0 a0 a1 a2 a3∧p1 a0 a1 a2 a3∧p2 a0 a1 a2 a3∧p3 a0 a1 a2 a3∧p4 a0 a1 a2 a3)(k:∀a0 a1 a2 a3,p0 a0 a1 a2 a3→p1 a0 a1 a2 a3→p2 a0 a1 a2 a3→p3 a0 a1 a2 a3→p4 a0 a1 a2 a3→Z):Z:=h.elim λa0 h=>h.elim λa1 h=>h.elim λa2 h=>h.elim λa3 h=>h.elim λh0 h=>h.elim λh1 h=>h.elim λh2 h=>h.elim λh3 h=>k a0 a1 a2 a3 h0 h1 h2 h3 h
theorem x4_6{α0 α1 α2 α3:Sort _}{p0 p1 p2 p3 p4 p5:α0→α1→α2→α3→Prop}{Z:Prop}(h:∃a0 a1 a2 a3,p0 a0 a1 a2 a3∧p1 a0 a1 a2 a3∧p2 a0 a1 a2 a3∧p3 a0 a1 a2 a3∧p4 a0 a1 a2 a3∧p5 a0 a1 a2 a3)(k:∀a0 a1 a2 a3,p0 a0 a1 a2 a3→p1 a0 a1 a2 a3→p2 a0 a1 a2 a3→p3 a0 a1 a2 a3→p4 a0 a1 a2 a3→p5 a0 a1 a2 a3→Z):Z:=h.elim λa0 h=>h.elim λa1 h=>h.elim λa2 h=>h.elim λa3 h=>h.elim λh0 h=>h.elim λh1 h=>h.elim λh2 h=>h.elim λh3 h=>h.elim λh4 h=>k a0 a1 a2 a3 h0 h1 h2 h3 h4 h
theorem x5_1{α0 α1 α2 α3 α4:Sort _}{p0:α0→α1→α2→α3→α4→Prop}{Z:Prop}(h:∃a0 a1 a2 a3 a4,p0 a0 a1 a2 a3 a4)(k:∀a0 a1 a2 a3 a4,p0 a0 a1 a2 a3 a4→Z):Z:=h.elim λa0 h=>h.elim λa1 h=>h.elim λa2 h=>h.elim λa3 h=>h.elim λa4 h=>k a0 a1 a2 a3 a4 h
theorem x5_2{α0 α1 α2 α3 α4:Sort _}{p0 p1:α0→α1→α2→α3→α4→Prop}{Z:Prop}(h:∃a0 a1 a2 a3 a4,p0 a0 a1 a2 a3 a4∧p1 a0 a1 a2 a3 a4)(k:∀a0 a1 a2 a3 a4,p0 a0 a1 a2 a3 a4→p1 a0 a1 a2 a3 a4→Z):Z:=h.elim λa0 h=>h.elim λa1 h=>h.elim λa2 h=>h.elim λa3 h=>h.elim λa4 h=>h.elim λh0 h=>k a0 a1 a2 a3 a4 h0 h
theorem x5_4{α0 α1 α2 α3 α4:Sort _}{p0 p1 p2 p3:α0→α1→α2→α3→α4→Prop}{Z:Prop}(h:∃a0 a1 a2 a3 a4,p0 a0 a1 a2 a3 a4∧p1 a0 a1 a2 a3 a4∧p2 a0 a1 a2 a3 a4∧p3 a0 a1 a2 a3 a4)(k:∀a0 a1 a2 a3 a4,p0 a0 a1 a2 a3 a4→p1 a0 a1 a2 a3 a4→p2 a0 a1 a2 a3 a4→p3 a0 a1 a2 a3 a4→Z):Z:=h.elim λa0 h=>h.elim λa1 h=>h.elim λa2 h=>h.elim λa3 h=>h.elim λa4 h=>h.elim λh0 h=>h.elim λh1 h=>h.elim λh2 h=>k a0 a1 a2 a3 a4 h0 h1 h2 h
theorem x6_4{α0 α1 α2 α3 α4 α5:Sort _}{p0 p1 p2 p3:α0→α1→α2→α3→α4→α5→Prop}{Z:Prop}(h:∃a0 a1 a2 a3 a4 a5,p0 a0 a1 a2 a3 a4 a5∧p1 a0 a1 a2 a3 a4 a5∧p2 a0 a1 a2 a3 a4 a5∧p3 a0 a1 a2 a3 a4 a5)(k:∀a0 a1 a2 a3 a4 a5,p0 a0 a1 a2 a3 a4 a5→p1 a0 a1 a2 a3 a4 a5→p2 a0 a1 a2 a3 a4 a5→p3 a0 a1 a2 a3 a4 a5→Z):Z:=h.elim λa0 h=>h.elim λa1 h=>h.elim λa2 h=>h.elim λa3 h=>h.elim λa4 h=>h.elim λa5 h=>h.elim λh0 h=>h.elim λh1 h=>h.elim λh2 h=>k a0 a1 a2 a3 a4 a5 h0 h1 h2 h
theorem x7_1{α0 α1 α2 α3 α4 α5 α6:Sort _}{p0:α0→α1→α2→α3→α4→α5→α6→Prop}{Z:Prop}(h:∃a0 a1 a2 a3 a4 a5 a6,p0 a0 a1 a2 a3 a4 a5 a6)(k:∀a0 a1 a2 a3 a4 a5 a6,p0 a0 a1 a2 a3 a4 a5 a6→Z):Z:=h.elim λa0 h=>h.elim λa1 h=>h.elim λa2 h=>h.elim λa3 h=>h.elim λa4 h=>h.elim λa5 h=>h.elim λa6 h=>k a0 a1 a2 a3 a4 a5 a6 h
theorem x7_5{α0 α1 α2 α3 α4 α5 α6:Sort _}{p0 p1 p2 p3 p4:α0→α1→α2→α3→α4→α5→α6→Prop}{Z:Prop}(h:∃a0 a1 a2 a3 a4 a5 a6,p0 a0 a1 a2 a3 a4 a5 a6∧p1 a0 a1 a2 a3 a4 a5 a6∧p2 a0 a1 a2 a3 a4 a5 a6∧p3 a0 a1 a2 a3 a4 a5 a6∧p4 a0 a1 a2 a3 a4 a5 a6)(k:∀a0 a1 a2 a3 a4 a5 a6,p0 a0 a1 a2 a3 a4 a5 a6→p1 a0 a1 a2 a3 a4 a5 a6→p2 a0 a1 a2 a3 a4 a5 a6→p3 a0 a1 a2 a3 a4 a5 a6→p4 a0 a1 a2 a3 a4 a5 a6→Z):Z:=h.elim λa0 h=>h.elim λa1 h=>h.elim λa2 h=>h.elim λa3 h=>h.elim λa4 h=>h.elim λa5 h=>h.elim λa6 h=>h.elim λh0 h=>h.elim λh1 h=>h.elim λh2 h=>h.elim λh3 h=>k a0 a1 a2 a3 a4 a5 a6 h0 h1 h2 h3 h
theorem y03{p0 p1 p2:Prop}(h0:p0)(h1:p1)(h2:p2):p0∧p1∧p2:=⟨h0,h1,h2⟩
theorem y04{p0 p1 p2 p3:Prop}(h0:p0)(h1:p1)(h2:p2)(h3:p3):p0∧p1∧p2∧p3:=⟨h0,h1,h2,h3⟩
theorem y05{p0 p1 p2 p3 p4:Prop}(h0:p0)(h1:p1)(h2:p2)(h3:p3)(h4:p4):p0∧p1∧p2∧p3∧p4:=⟨h0,h1,h2,h3,h4⟩
theorem y06{p0 p1 p2 p3 p4 p5:Prop}(h0:p0)(h1:p1)(h2:p2)(h3:p3)(h4:p4)(h5:p5):p0∧p1∧p2∧p3∧p4∧p5:=⟨h0,h1,h2,h3,h4,h5⟩
theorem y07{p0 p1 p2 p3 p4 p5 p6:Prop}(h0:p0)(h1:p1)(h2:p2)(h3:p3)(h4:p4)(h5:p5)(h6:p6):p0∧p1∧p2∧p3∧p4∧p5∧p6:=⟨h0,h1,h2,h3,h4,h5,h6⟩
theorem y12{α0:Sort _}{p0 p1:α0→Prop}(a0:α0)(h0:p0 a0)(h1:p1 a0):∃a0,p0 a0∧p1 a0:=⟨a0,h0,h1⟩
theorem y13{α0:Sort _}{p0 p1 p2:α0→Prop}(a0:α0)(h0:p0 a0)(h1:p1 a0)(h2:p2 a0):∃a0,p0 a0∧p1 a0∧p2 a0:=⟨a0,h0,h1,h2⟩
theorem y14{α0:Sort _}{p0 p1 p2 p3:α0→Prop}(a0:α0)(h0:p0 a0)(h1:p1 a0)(h2:p2 a0)(h3:p3 a0):∃a0,p0 a0∧p1 a0∧p2 a0∧p3 a0:=⟨a0,h0,h1,h2,h3⟩
theorem y15{α0:Sort _}{p0 p1 p2 p3 p4:α0→Prop}(a0:α0)(h0:p0 a0)(h1:p1 a0)(h2:p2 a0)(h3:p3 a0)(h4:p4 a0):∃a0,p0 a0∧p1 a0∧p2 a0∧p3 a0∧p4 a0:=⟨a0,h0,h1,h2,h3,h4⟩
theorem y16{α0:Sort _}{p0 p1 p2 p3 p4 p5:α0→Prop}(a0:α0)(h0:p0 a0)(h1:p1 a0)(h2:p2 a0)(h3:p3 a0)(h4:p4 a0)(h5:p5 a0):∃a0,p0 a0∧p1 a0∧p2 a0∧p3 a0∧p4 a0∧p5 a0:=⟨a0,h0,h1,h2,h3,h4,h5⟩
theorem y21{α0 α1:Sort _}{p0:α0→α1→Prop}(a0:α0)(a1:α1)(h0:p0 a0 a1):∃a0 a1,p0 a0 a1:=⟨a0,a1,h0⟩
theorem y22{α0 α1:Sort _}{p0 p1:α0→α1→Prop}(a0:α0)(a1:α1)(h0:p0 a0 a1)(h1:p1 a0 a1):∃a0 a1,p0 a0 a1∧p1 a0 a1:=⟨a0,a1,h0,h1⟩
theorem y23{α0 α1:Sort _}{p0 p1 p2:α0→α1→Prop}(a0:α0)(a1:α1)(h0:p0 a0 a1)(h1:p1 a0 a1)(h2:p2 a0 a1):∃a0 a1,p0 a0 a1∧p1 a0 a1∧p2 a0 a1:=⟨a0,a1,h0,h1,h2⟩
theorem y24{α0 α1:Sort _}{p0 p1 p2 p3:α0→α1→Prop}(a0:α0)(a1:α1)(h0:p0 a0 a1)(h1:p1 a0 a1)(h2:p2 a0 a1)(h3:p3 a0 a1):∃a0 a1,p0 a0 a1∧p1 a0 a1∧p2 a0 a1∧p3 a0 a1:=⟨a0,a1,h0,h1,h2,h3⟩
theorem y25{α0 α1:Sort _}{p0 p1 p2 p3 p4:α0→α1→Prop}(a0:α0)(a1:α1)(h0:p0 a0 a1)(h1:p1 a0 a1)(h2:p2 a0 a1)(h3:p3 a0 a1)(h4:p4 a0 a1):∃a0 a1,p0 a0 a1∧p1 a0 a1∧p2 a0 a1∧p3 a0 a1∧p4 a0 a1:=⟨a0,a1,h0,h1,h2,h3,h4⟩
theorem y31{α0 α1 α2:Sort _}{p0:α0→α1→α2→Prop}(a0:α0)(a1:α1)(a2:α2)(h0:p0 a0 a1 a2):∃a0 a1 a2,p0 a0 a1 a2:=⟨a0,a1,a2,h0⟩
theorem y32{α0 α1 α2:Sort _}{p0 p1:α0→α1→α2→Prop}(a0:α0)(a1:α1)(a2:α2)(h0:p0 a0 a1 a2)(h1:p1 a0 a1 a2):∃a0 a1 a2,p0 a0 a1 a2∧p1 a0 a1 a2:=⟨a0,a1,a2,h0,h1⟩
theorem y33{α0 α1 α2:Sort _}{p0 p1 p2:α0→α1→α2→Prop}(a0:α0)(a1:α1)(a2:α2)(h0:p0 a0 a1 a2)(h1:p1 a0 a1 a2)(h2:p2 a0 a1 a2):∃a0 a1 a2,p0 a0 a1 a2∧p1 a0 a1 a2∧p2 a0 a1 a2:=⟨a0,a1,a2,h0,h1,h2⟩
theorem y34{α0 α1 α2:Sort _}{p0 p1 p2 p3:α0→α1→α2→Prop}(a0:α0)(a1:α1)(a2:α2)(h0:p0 a0 a1 a2)(h1:p1 a0 a1 a2)(h2:p2 a0 a1 a2)(h3:p3 a0 a1 a2):∃a0 a1 a2,p0 a0 a1 a2∧p1 a0 a1 a2∧p2 a0 a1 a2∧p3 a0 a1 a2:=⟨a0,a1,a2,h0,h1,h2,h3⟩
theorem y35{α0 α1 α2:Sort _}{p0 p1 p2 p3 p4:α0→α1→α2→Prop}(a0:α0)(a1:α1)(a2:α2)(h0:p0 a0 a1 a2)(h1:p1 a0 a1 a2)(h2:p2 a0 a1 a2)(h3:p3 a0 a1 a2)(h4:p4 a0 a1 a2):∃a0 a1 a2,p0 a0 a1 a2∧p1 a0 a1 a2∧p2 a0 a1 a2∧p3 a0 a1 a2∧p4 a0 a1 a2:=⟨a0,a1,a2,h0,h1,h2,h3,h4⟩
theorem y41{α0 α1 α2 α3:Sort _}{p0:α0→α1→α2→α3→Prop}(a0:α0)(a1:α1)(a2:α2)(a3:α3)(h0:p0 a0 a1 a2 a3):∃a0 a1 a2 a3,p0 a0 a1 a2 a3:=⟨a0,a1,a2,a3,h0⟩
theorem y43{α0 α1 α2 α3:Sort _}{p0 p1 p2:α0→α1→α2→α3→Prop}(a0:α0)(a1:α1)(a2:α2)(a3:α3)(h0:p0 a0 a1 a2 a3)(h1:p1 a0 a1 a2 a3)(h2:p2 a0 a1 a2 a3):∃a0 a1 a2 a3,p0 a0 a1 a2 a3∧p1 a0 a1 a2 a3∧p2 a0 a1 a2 a3:=⟨a0,a1,a2,a3,h0,h1,h2⟩
theorem y44{α0 α1 α2 α3:Sort _}{p0 p1 p2 p3:α0→α1→α2→α3→Prop}(a0:α0)(a1:α1)(a2:α2)(a3:α3)(h0:p0 a0 a1 a2 a3)(h1:p1 a0 a1 a2 a3)(h2:p2 a0 a1 a2 a3)(h3:p3 a0 a1 a2 a3):∃a0 a1 a2 a3,p0 a0 a1 a2 a3∧p1 a0 a1 a2 a3∧p2 a0 a1 a2 a3∧p3 a0 a1 a2 a3:=⟨a0,a1,a2,a3,h0,h1,h2,h3⟩
theorem y45{α0 α1 α2 α3:Sort _}{p0 p1 p2 p3 p4:α0→α1→α2→α3→Prop}(a0:α0)(a1:α1)(a2:α2)(a3:α3)(h0:p0 a0 a1 a2 a3)(h1:p1 a0 a1 a2 a3)(h2:p2 a0 a1 a2 a3)(h3:p3 a0 a1 a2 a3)(h4:p4 a0 a1 a2 a3):∃a0 a1 a2 a3,p0 a0 a1 a2 a3∧p1 a0 a1 a2 a3∧p2 a0 a1 a2 a3∧p3 a0 a1 a2 a3∧p4 a0 a1 a2 a3:=⟨a0,a1,a2,a3,h0,h1,h2,h3,h4⟩
theorem y46{α0 α1 α2 α3:Sort _}{p0 p1 p2 p3 p4 p5:α0→α1→α2→α3→Prop}(a0:α0)(a1:α1)(a2:α2)(a3:α3)(h0:p0 a0 a1 a2 a3)(h1:p1 a0 a1 a2 a3)(h2:p2 a0 a1 a2 a3)(h3:p3 a0 a1 a2 a3)(h4:p4 a0 a1 a2 a3)(h5:p5 a0 a1 a2 a3):∃a0 a1 a2 a3,p0 a0 a1 a2 a3∧p1 a0 a1 a2 a3∧p2 a0 a1 a2 a3∧p3 a0 a1 a2 a3∧p4 a0 a1 a2 a3∧p5 a0 a1 a2 a3:=⟨a0,a1,a2,a3,h0,h1,h2,h3,h4,h5⟩
theorem y47{α0 α1 α2 α3:Sort _}{p0 p1 p2 p3 p4 p5 p6:α0→α1→α2→α3→Prop}(a0:α0)(a1:α1)(a2:α2)(a3:α3)(h0:p0 a0 a1 a2 a3)(h1:p1 a0 a1 a2 a3)(h2:p2 a0 a1 a2 a3)(h3:p3 a0 a1 a2 a3)(h4:p4 a0 a1 a2 a3)(h5:p5 a0 a1 a2 a3)(h6:p6 a0 a1 a2 a3):∃a0 a1 a2 a3,p0 a0 a1 a2 a3∧p1 a0 a1 a2 a3∧p2 a0 a1 a2 a3∧p3 a0 a1 a2 a3∧p4 a0 a1 a2 a3∧p5 a0 a1 a2 a3∧p6 a0 a1 a2 a3:=⟨a0,a1,a2,a3,h0,h1,h2,h3,h4,h5,h6⟩
theorem y48{α0 α1 α2 α3:Sort _}{p0 p1 p2 p3 p4 p5 p6 p7:α0→α1→α2→α3→Prop}(a0:α0)(a1:α1)(a2:α2)(a3:α3)(h0:p0 a0 a1 a2 a3)(h1:p1 a0 a1 a2 a3)(h2:p2 a0 a1 a2 a3)(h3:p3 a0 a1 a2 a3)(h4:p4 a0 a1 a2 a3)(h5:p5 a0 a1 a2 a3)(h6:p6 a0 a1 a2 a3)(h7:p7 a0 a1 a2 a3):∃a0 a1 a2 a3,p0 a0 a1 a2 a3∧p1 a0 a1 a2 a3∧p2 a0 a1 a2 a3∧p3 a0 a1 a2 a3∧p4 a0 a1 a2 a3∧p5 a0 a1 a2 a3∧p6 a0 a1 a2 a3∧p7 a0 a1 a2 a3:=⟨a0,a1,a2,a3,h0,h1,h2,h3,h4,h5,h6,h7⟩
theorem y51{α0 α1 α2 α3 α4:Sort _}{p0:α0→α1→α2→α3→α4→Prop}(a0:α0)(a1:α1)(a2:α2)(a3:α3)(a4:α4)(h0:p0 a0 a1 a2 a3 a4):∃a0 a1 a2 a3 a4,p0 a0 a1 a2 a3 a4:=⟨a0,a1,a2,a3,a4,h0⟩
theorem y54{α0 α1 α2 α3 α4:Sort _}{p0 p1 p2 p3:α0→α1→α2→α3→α4→Prop}(a0:α0)(a1:α1)(a2:α2)(a3:α3)(a4:α4)(h0:p0 a0 a1 a2 a3 a4)(h1:p1 a0 a1 a2 a3 a4)(h2:p2 a0 a1 a2 a3 a4)(h3:p3 a0 a1 a2 a3 a4):∃a0 a1 a2 a3 a4,p0 a0 a1 a2 a3 a4∧p1 a0 a1 a2 a3 a4∧p2 a0 a1 a2 a3 a4∧p3 a0 a1 a2 a3 a4:=⟨a0,a1,a2,a3,a4,h0,h1,h2,h3⟩
theorem y55{α0 α1 α2 α3 α4:Sort _}{p0 p1 p2 p3 p4:α0→α1→α2→α3→α4→Prop}(a0:α0)(a1:α1)(a2:α2)(a3:α3)(a4:α4)(h0:p0 a0 a1 a2 a3 a4)(h1:p1 a0 a1 a2 a3 a4)(h2:p2 a0 a1 a2 a3 a4)(h3:p3 a0 a1 a2 a3 a4)(h4:p4 a0 a1 a2 a3 a4):∃a0 a1 a2 a3 a4,p0 a0 a1 a2 a3 a4∧p1 a0 a1 a2 a3 a4∧p2 a0 a1 a2 a3 a4∧p3 a0 a1 a2 a3 a4∧p4 a0 a1 a2 a3 a4:=⟨a0,a1,a2,a3,a4,h0,h1,h2,h3,h4⟩
theorem y64{α0 α1 α2 α3 α4 α5:Sort _}{p0 p1 p2 p3:α0→α1→α2→α3→α4→α5→Prop}(a0:α0)(a1:α1)(a2:α2)(a3:α3)(a4:α4)(a5:α5)(h0:p0 a0 a1 a2 a3 a4 a5)(h1:p1 a0 a1 a2 a3 a4 a5)(h2:p2 a0 a1 a2 a3 a4 a5)(h3:p3 a0 a1 a2 a3 a4 a5):∃a0 a1 a2 a3 a4 a5,p0 a0 a1 a2 a3 a4 a5∧p1 a0 a1 a2 a3 a4 a5∧p2 a0 a1 a2 a3 a4 a5∧p3 a0 a1 a2 a3 a4 a5:=⟨a0,a1,a2,a3,a4,a5,h0,h1,h2,h3⟩
theorem y67{α0 α1 α2 α3 α4 α5:Sort _}{p0 p1 p2 p3 p4 p5 p6:α0→α1→α2→α3→α4→α5→Prop}(a0:α0)(a1:α1)(a2:α2)(a3:α3)(a4:α4)(a5:α5)(h0:p0 a0 a1 a2 a3 a4 a5)(h1:p1 a0 a1 a2 a3 a4 a5)(h2:p2 a0 a1 a2 a3 a4 a5)(h3:p3 a0 a1 a2 a3 a4 a5)(h4:p4 a0 a1 a2 a3 a4 a5)(h5:p5 a0 a1 a2 a3 a4 a5)(h6:p6 a0 a1 a2 a3 a4 a5):∃a0 a1 a2 a3 a4 a5,p0 a0 a1 a2 a3 a4 a5∧p1 a0 a1 a2 a3 a4 a5∧p2 a0 a1 a2 a3 a4 a5∧p3 a0 a1 a2 a3 a4 a5∧p4 a0 a1 a2 a3 a4 a5∧p5 a0 a1 a2 a3 a4 a5∧p6 a0 a1 a2 a3 a4 a5:=⟨a0,a1,a2,a3,a4,a5,h0,h1,h2,h3,h4,h5,h6⟩
theorem y71{α0 α1 α2 α3 α4 α5 α6:Sort _}{p0:α0→α1→α2→α3→α4→α5→α6→Prop}(a0:α0)(a1:α1)(a2:α2)(a3:α3)(a4:α4)(a5:α5)(a6:α6)(h0:p0 a0 a1 a2 a3 a4 a5 a6):∃a0 a1 a2 a3 a4 a5 a6,p0 a0 a1 a2 a3 a4 a5 a6:=⟨a0,a1,a2,a3,a4,a5,a6,h0⟩
theorem y75{α0 α1 α2 α3 α4 α5 α6:Sort _}{p0 p1 p2 p3 p4:α0→α1→α2→α3→α4→α5→α6→Prop}(a0:α0)(a1:α1)(a2:α2)(a3:α3)(a4:α4)(a5:α5)(a6:α6)(h0:p0 a0 a1 a2 a3 a4 a5 a6)(h1:p1 a0 a1 a2 a3 a4 a5 a6)(h2:p2 a0 a1 a2 a3 a4 a5 a6)(h3:p3 a0 a1 a2 a3 a4 a5 a6)(h4:p4 a0 a1 a2 a3 a4 a5 a6):∃a0 a1 a2 a3 a4 a5 a6,p0 a0 a1 a2 a3 a4 a5 a6∧p1 a0 a1 a2 a3 a4 a5 a6∧p2 a0 a1 a2 a3 a4 a5 a6∧p3 a0 a1 a2 a3 a4 a5 a6∧p4 a0 a1 a2 a3 a4 a5 a6:=⟨a0,a1,a2,a3,a4,a5,a6,h0,h1,h2,h3,h4⟩
@[elab_as_elim] theorem rwl {α:Sort _} {a b:α} {p:α→Prop} (h:a=b) (k:p b):p a:=h.symm.subst k
@[elab_as_elim] theorem rwr {α:Sort _} {a b:α} {p:α→Prop} (h:b=a) (k:p b):p a:=h.subst k
section
open Lean
set_option compiler.extract_closed false
abbrev Tc:=TSyntax `tactic
def tk(s:String):Syntax:=.atom .none s
def nd(k:String)(a:Array Syntax):Syntax:=.node .none (.str `Lean.Parser.Tactic k) a
def nt(k:String)(a:Array Syntax):Syntax:=.node .none (.str `Lean.Parser.Term k) a
def nl(a:Array Syntax):Syntax:=.node .none `null a
def idS(s:String):Syntax:=mkIdent s.toName
def sepS(s:String)(l:Array Syntax):Syntax:=nl (l.foldl (λa t=>if a.isEmpty then #[t]else(a.push (tk s)).push t) #[])
def seqS(l:Array Syntax):Syntax:=nd "tacticSeq" #[nd "tacticSeq1Indented" #[sepS ";" l]]
def parS(l:Array Syntax):Syntax:=nd "paren" #[tk "(",seqS l,tk ")"]
def orS(l:Array Syntax):Syntax:=if l.size==1 then l[0]! else nd "first" #[tk "first",nl (l.map λt=>.node .none `group #[tk "|",seqS #[t]])]
def kwS(k s:String)(t:Syntax):Syntax:=nd k #[tk s,seqS #[t]]
def wrS(t:Syntax):Syntax:=kwS "withReducible" "with_reducible" t
def failS(t:Syntax):Syntax:=parS #[kwS "failIfSuccess" "fail_if_success" t]
def refS(t:Syntax):Syntax:=nd "refine" #[tk "refine",t]
def appS(f:Syntax)(a:Array Syntax):Syntax:=nt "app" #[f,nl a]
def hole:Syntax:=nt "hole" #[tk "_"]
def qGb:Syntax:=nt "syntheticHole" #[tk "?",tk "_"]
def cfgS(l:Array Syntax):Syntax:=nd "optConfig" #[nl l]
def simpS(s:String)(loc:Array Syntax):Syntax:=nd "simp" #[tk "simp",cfgS #[],nl #[],nl #[tk "only"],nl #[tk "[",sepS "," ((s.splitOn " ").map λn=>nd "simpLemma" #[nl #[],nl #[],idS n]).toArray,tk "]"],nl loc]
def rewS(r:Syntax):Syntax:=nd "rewriteSeq" #[tk "rewrite",cfgS #[],nd "rwRuleSeq" #[tk "[",nl #[r],tk "]"],nl #[]]
def tc(s:String):Syntax:=nd s #[tk s,cfgS #[]]
def t1(k s:String):Syntax:=nd k #[tk s]
def qE7(s:String):Syntax:=
 if s=="dc" then tc "decide" else if s=="dk" then nd "decide" #[tk "decide",cfgS #[nd "configItem" #[nd "posConfigItem" #[tk "+",idS "kernel"]]]]
 else if s=="kr" then .node .none `PyProof.Rows.tacticKernel_rfl! #[tk "kernel_rfl!"]
 else if s=="oo" then tc "omega" else if s=="am" then t1 "assumption" "assumption" else if s=="rf" then t1 "tacticRfl" "rfl" else if s=="eq" then t1 "eqRefl" "eq_refl"
 else if s=="rq" then wrS (t1 "eqRefl" "eq_refl")else if s=="om" then parS #[simpS "Cx.under cxOf" #[],tc "omega"]
 else if s=="leaf" then parS #[simpS "Deed.wrd Deed.vls List.map_cons List.map_nil V.toD strsV_toD intsV_toD if_true Bool.false_eq_true if_false" #[nd "location" #[tk "at",t1 "locationWildcard" "*"]],t1 "assumption" "assumption"]
 else if s=="rs" then rewS (nd "rwRule" #[nl #[],idS "Sg.set_set"])
 else .node .none `PyProof.Rows.tacticWalk_at_ #[tk "walk_at",Syntax.mkStrLit s]
def wordS(w:String):Syntax:=
 if w=="?" then qGb else if w=="_" then hole
 else if w.startsWith "!" then nt "byTactic" #[tk "by",seqS #[qE7 (w.drop 1).toString]]else idS w
def closeS(c:Bool)(a:Array Syntax):Syntax:=if c then nt "anonymousCtor" #[tk "⟨",sepS "," a,tk "⟩"]else if a.size==1 then a[0]! else appS a[0]! (a.extract 1 a.size)
def termS(ws:List String):Syntax:=
 let r:=ws.foldl (λ(st:List (Bool × Array Syntax)) w=>
  if w=="(" then(false,#[])::st else if w=="<" then(true,#[])::st
  else if w==")" || w==">" then match st with
   |(c,a)::(d,b)::r=>(d,b.push (closeS c a))::r
   |r=>r
  else match st with
   |(d,b)::r=>(d,b.push (wordS w))::r
   |r=>r) [(false,#[])]
 match r with
 |(_,a)::_=>closeS false a
 | []=>hole
def qIU(s:String)(ws:List String):List (List String):=(" ".intercalate ws).splitOn (" "++s++" ") |>.map λx=>(x.splitOn " ").filter (·≠"")
def grdS(ws:List String):Syntax:=nd "guardTarget" #[tk "guard_target",.node .none `Lean.Parser.equal #[.node .none `Lean.Parser.equalD #[tk "=~"]],termS ws]
def altS(ws:List String):Syntax:=
 let h:=ws.headD ""
 let r:=ws.drop 1
 if h=="@" then qE7 (r.headD "")else if h=="@r" then wrS (qE7 (r.headD ""))else if h=="%" then wrS (refS (termS r))else refS (termS ws)
def nameS(n:String):Syntax:=refS (appS (idS n) #[qGb])
def qIh(r:List String):Syntax:=orS (r.map nameS).toArray
def altsS(r:List String):Array Syntax:=((qIU "|" r).map altS).toArray
def hdS(r:List String):Syntax:=grdS (r.headD ""::List.replicate (r.getD 1 "").toNat! "_")
def iS(q k:String):Syntax:=refS (termS [q,k,"?"])
def entS(s:String):Syntax:=
 let ws:=(s.splitOn " ").filter (·≠"")
 let c:=ws.headD ""
 let r:=ws.drop 1
 let q:=r.drop 2
 let p:=qIU ":" r
 let a:=p.getD 1 []
 let g:=p.headD []
 if c=="l" then parS #[hdS r,qIh q]
 else if c=="r" then parS #[hdS r,wrS (qIh q)]
 else if c=="i" then parS #[hdS r,orS #[iS (q.headD "") "!rq",iS (q.getD 1 "") "!rq",iS (q.headD "") "!eq",iS (q.getD 1 "") "!eq"]]
 else if c=="g" then parS #[grdS g,orS (altsS a)]
 else if c=="m" then parS #[failS (orS ((qIU "|" g).map grdS).toArray),orS (altsS a)]
 else if c=="n" then qIh r
 else if c=="s" then parS (altsS r)
 else orS (altsS ws)
def hk:List (String × String):=[("nm","% rl_eq | rl_ne !eq !nm | @ am | @ rf | rl_eq"),
 ("gl","n N_len N_StoreFault N_tuple N_isinstance N_LogFault N_bytes N_range N_sorted N_flag_tuple N_count_octets N_INBOX_store N_settled_name N_need_modseqs N_str N_NameFault N_is_number N_list N_Box N_normal_name N_MOST N_apply N_ord N_all N_Letter N_place_of N_raised N_read_count N_framed N_DELIMITER N_are_numbers N_need_new N_int N_min N_add_letter N_set_flags N_expunge N_copy_letters N_move_letters N_is_refused N_MOST_DEPTH N_MODULUS N_NUMBER N_TEXT N_ROW N_value_octets N_read_value N_is_row N_adler N_sum_octets N_row_at N_INBOX_names N_MOST_MODSEQ N_Store N_are_texts N_check_row N_need_room N_need_validity N_Keeper N_abs N_chr N_bytearray N_zip N_bool N_SYSTEM N_NO_KEYWORD N_MOST_KEYWORD N_system_flags N_is_keyword N_flag_name N_flags_after N_store_flags N_distinct N_forget_gone N_SUM_WIDTH N_LAST_SIGN N_OCTETS N_folded_number N_plain_number N_text_codes N_read_text N_read_some N_row_octets N_read_row N_upper_text N_WILD_SIGNS N_is_half N_first_part N_is_barred_code N_check_name N_is_below N_SHAPES N_fits_shape N_need_uids N_create_box N_delete_box N_renamed_pairs N_rename_box N_rename_inbox N_append_letter N_flag_letter N_store_letters N_expunge_letters N_copy_or_move N_subscribe_name N_unsubscribe_name N_ulaw_box N_ulaw_draw N_ulaw_name N_ulaw_flags N_ulaw_uids N_ulaw_deed N_ulaw_any N_ulaw_heard"),
 ("tr","trivial | < rfl trivial > | < rfl rfl trivial > | < rfl rfl rfl trivial >"),
 ("e1","g WE _ ( Expr.Name _ _ ) _ _ _ _ : WE_name !nm ? | @r gl ; g WE _ ( Expr.Constant _ _ _ ) _ _ _ _ : WE_int ? | WE_str ? | WE_none ? | WE_bool ? | WE_bytes ? ; g STs _ ( List.cons ( Stmt.If ( Expr.Compare ( Expr.Name _ _ ) _ ( List.cons ( Expr.Constant ( Const.str _ ) _ _ ) _ ) _ ) _ _ _ ) _ ) _ _ _ _ _ : skipS !nm !rf !rf ? ; l WE 6 WE_Meth WE_Call WE_BinOp WE_Attr WE_Sub WE_Tuple WE_Meth0 WE_Call0 qIB WE_IfExp WE_Unary WE_Slice WE_and WE_or qIA WE_Chain ; r O2 8 O_add O_sub O_eqs O_lt O_le O_gt O_ge O_eq O_ne O_nes O_is O_isn ; l WEs 7 WEs_cons WEs_nil ; l STs 7 STs_cons STs_nil ; l ST 7 qJX ST_If ST_AsL ST_AsC ST_Expr qGD ST_Swap qD7 qID qJY ; l WB 6 qES WB_Not qJR WB_Chain WB_val ; l OT 6 T_bool ; l WA 7 WA_and WA_or qIC qJS ; l AS 7 AS_nL AS_nC AS_tupR ; l ASs 6 ASs_L ASs_C qBU ; l WT 5 WT_nil WT_one ; l WP 6 WP_none WP_some ; l CallP 8 Cl_K Cl_blt Cl_typ Cl_exc ; l Call0P 6 C0_K C0_blt C0_typ ; l MethP 9 M_lower M_find M_join qGF M_split ; l Meth0P 7 M0_lower ; l TupP 3 tpR ; l LstP 3 lpR ; l LsTP 3 ltR ; l SubP 7 Sb_tup qE0 Sb_str Sb_bytes ; l IntP 3 ipR ; l SwapP 6 swR ; l OC 7 C_ord C_find qGH ; i kIf 9 kIf_t kIf_f ; i kWand 7 kWand_t kWand_f ; i kWor 7 kWor_t kWor_f ; i kIfE 8 kIfE_t kIfE_f ; i kAndB 9 kAndB_t kAndB_f ; i kOrB 9 kOrB_t kOrB_f ; i kCh4 10 kCh4_t kCh4_f ; i kChB4 9 kChB4_t kChB4_f ; i kElt 6 kElt_t kElt_f ; i kIfc 9 kIfc_t kIfc_f ; i kIfEc 8 kIfEc_t kIfEc_f ; i kWhl 10 kWhl_t kWhl_f ; i kWhlc 10 qIl qIm ; g ST _ _ _ _ _ _ _ : qH0 ? | ST_box_validity ? | qE1 ? | ST_box_top ? | qG9 ? | qH1 ? | qAT ? ; g O1 _ _ _ _ _ _ _ : O_neg ? | O_not ? | A_inst rfl ? | A_obj !am rfl ? ; g BodyP _ _ _ _ _ _ _ : bdR1 ? !tr ; g AttrSP _ _ _ _ _ _ : AttrSP.mk _ _ _ rfl !am !kr rfl ? ; g BoxSP _ _ _ _ _ _ _ : BoxSP.mk _ _ _ _ rfl rfl !am ?"),
 ("e","@ *e1"),
 ("c1","g WEc _ ( Expr.Name _ _ ) _ _ _ _ : WE.lift ? ; g WEc _ ( Expr.Constant _ _ _ ) _ _ _ _ : WE.lift ? ; l WEc 6 qJP WEc_Meth WEc_Call qJO qJM qJL WE.lift ; l WEsc 7 qJK WEsc_nil ; l STsc 7 qJT STsc_nil ; l STc 7 qCs STc_If qJV qJW qHT ; l WBc 6 WB.lift ; l CallPc 8 Clc_K Clc_blt Clc_typ ; l Call0Pc 6 C0c_K C0c_blt C0c_typ ; m STc _ ( Stmt.While _ _ _ _ ) _ _ _ _ _ | STc _ ( Stmt.For _ _ _ _ _ ) _ _ _ _ _ : ST.lift ? ; g BodyPc _ _ _ _ _ _ : bdRc ? !tr ; @ e1"),
 ("c","@ *c1"),
 ("isi","C_isiF !dk ? | C_isiT !dk ? | OC.lift ( C_isiF !dk ? ) | OC.lift ( C_isiT !dk ? )"),
 ("lv","lvR rfl | lv0 | lvN rfl | @ om"),
 ("x","X_one ? !dc rfl !lv xk0 | X_two ? !dc rfl !lv xk0 | X_one ? !dc rfl !lv xk1 | X_two ? !dc rfl !lv xk2"),
 ("as","s AttrSP.mk _ _ _ rfl ( Sg.set_same _ _ _ ) !kr rfl ? | @ rs | @ e"),
 ("d","@ *c1"),
 ("f2","l STc 7 STc_If qJV qJW qHT ; m STc _ _ _ _ _ _ _ : @ c1"),
 ("f","@ *f2"),
 ("h1","n STs_cons STs_nil ST_Expr WE_Meth WEs_cons WEs_nil ; WE_name rfl ? | WE_glob rfl rfl rfl ? | WE_blt rfl !dc rfl rfl ?"),
 ("h","@ *h1"),
 ("sc","g O2 _ _ _ _ _ _ _ _ : gt0 rfl rfl !dc ? | gt1 rfl rfl !dc ? | gt2 rfl rfl !dc ? | gt3 rfl rfl !dc ? | gt4 rfl rfl !dc ? | gt5 rfl rfl !dc ?"),
 ("g1","@ e1 ; @ sc"),
 ("g","@ *g1"),
 ("sz","szA !am | szB !am | szB !oo"),
 ("sm","smA !am | smB !am | smB !oo")]
def hook(s:String):MacroM Tc:=
 if s.startsWith "*" then pure ⟨.node .none `Lean.Parser.Tactic.tacticRepeat_ #[tk "repeat",seqS #[qE7 (s.drop 1).toString]]⟩ else
 match hk.lookup s with
 |some t=>pure ⟨orS ((t.splitOn ";").map entS).toArray⟩
 |none=>let t:=qE7 s;if t.isOfKind `PyProof.Rows.tacticWalk_at_ then Macro.throwUnsupported else pure ⟨t⟩
theorem nC{n m k:Nat}(h:n < m)(e:m≤k+1):n≤k:=Nat.le_of_lt_succ (Nat.lt_of_lt_of_le h e)
theorem nE1{n m a k:Nat}(h:n≤m)(e:m+a≤k):n+a≤k:=Nat.le_trans (Nat.add_le_add_right h a) e
theorem nE2{n m a b k:Nat}(h:n≤m)(e:m+a+b≤k):n+a+b≤k:=nE1 (Nat.add_le_add_right h a) e
theorem nE3{n m a b c k:Nat}(h:n≤m)(e:m+a+b+c≤k):n+a+b+c≤k:=nE2 (Nat.add_le_add_right h a) e
def kPat(k:String):Name:=.str (.str `Lean.Parser.Tactic "rcasesPat") k
def isK(p:Syntax)(k:String):Bool:=p.isOfKind (.str `Lean.Parser.Tactic k)
def qIe(p:Syntax):Syntax:=if p.isOfKind (kPat "one")then p[0]else hole
def qDW(p:Syntax):Bool:=(p.isOfKind (kPat "one") && p[0].getId != `rfl) || p.isOfKind (kPat "ignore")
def qGX(p:Syntax):Option (Array Syntax):=if p.isOfKind (kPat "tuple")then some p[1].getSepArgs else none
def obLo(p:Syntax):Syntax:=
 let m:=if isK p "rcasesPatLo" && p[1].getNumArgs==0 then p[0]else p
 if isK m "rcasesPatMed" && m[0].getNumArgs==1 then m[0][0]else m
def medS(p:Syntax):Syntax:=if isK p "rcasesPatMed" then p else nd "rcasesPatMed" #[nl #[p]]
def loS(p:Syntax):Syntax:=if isK p "rcasesPatLo" then p else nd "rcasesPatLo" #[medS p,nl #[]]
def rcS(e p:Syntax):Syntax:=nd "rcases" #[tk "rcases",nl #[nd "elimTarget" #[nl #[],e]],nl #[tk "with",loS p]]
def obS(e p:Syntax):Syntax:=nd "obtain" #[tk "obtain",nl #[medS p],nl #[],nl #[tk ":=",nl #[e]]]
def tupS(cs:Array Syntax):Syntax:=.node .none (kPat "tuple") #[tk "⟨",sepS "," (cs.map loS),tk "⟩"]
def qHm(k:Nat):Syntax:=idS s!"o{k}'"
def obOne(k:Nat):Syntax:=.node .none (kPat "one") #[qHm k]
def elS(e:Syntax):Syntax:=refS (appS (nt "proj" #[e,tk ".",idS "el"]) #[qGb])
def qEk(ns:Array Syntax)(e:Syntax)(k:Array Syntax):Syntax:=
 let n:=ns.size
 let r:=((List.range n).filter λi=>(i,n - i) !=(0,1)).map λi=>wrS (refS (appS (idS s!"x{i}_{n - i}") #[e,qGb]))
 let c:=if e.isIdent then #[kwS "tacticTry_" "try" (nd "clear" #[tk "clear",nl #[e]])]else #[]
 parS (#[orS (r++ [elS e]).toArray]++c++ #[nd "intro" #[tk "intro",nl (ns.map qIe)]]++k)
def qIf(p v:Syntax):Array Syntax:=if qDW p then #[]else #[if(qGX p).isSome then obS v p else rcS v p]
def qH9(p:Syntax)(k:Nat):Array Syntax:=qIf p (qHm k)
def obDeep(e:Syntax)(i:Nat):Syntax:=idS s!"o{if e.isIdent then e.getId.toString.replace "." "_" else ""}_{i}'"
def obK(e:Syntax)(k:Nat):Nat:=if e.getId==(qHm k).getId then k - 3 else k
def obGo(cs:Array Syntax)(e:Syntax):List Syntax:=
 let flat (cs:Array Syntax):=match qGX cs.back! with
  |some q=>cs.pop++q.map obLo
  |none=>cs
 let cs:=flat (flat (flat (cs.map obLo)))
 let n:=cs.size
 let(a,b,c):=(obK e 4,obK e 8,obK e 9)
 let cut (l:Nat):Syntax:=qEk ((cs.extract 0 (l - 1)).push (obOne a)) e #[obS (qHm a) (tupS (cs.extract (l - 1) n))]
 let cuts (m:Nat):List Syntax:=((List.range (m - 1)).filter (· ≥ 2)).reverse.map cut++(if m > 2 then [cut 2]else [])
 match cs.findIdx? (λc=>!qDW c) with
 |none=>qEk cs e #[]::cuts n
 |some k=>
  parS (#[elS e,nd "intro" #[tk "intro",nl (cs.mapIdx λi c=>if qDW c then qIe c else obDeep e i)]]++(cs.mapIdx λi c=>qIf c (obDeep e i)).flatten)::
  if k+1==n then qEk ((cs.extract 0 k).push (obOne b)) e (qH9 cs[k]! b)::cuts n
  else
   let t:=qH9 cs[k]! b
   let(v,rest):=if k+2==n && qDW cs[k+1]! then(cs[k+1]!,#[])else(obOne c,if k+2==n then qH9 cs[k+1]! c else #[obS (qHm c) (tupS (cs.extract (k+1) n))])
   let u:=if rest.isEmpty then t[0]! else .node .none (.str `Lean.Parser.Tactic "tactic_<;>_") #[t[0]!,tk "<;>",rest[0]!]
   qEk (((cs.extract 0 k).push (obOne b)).push v) e #[u]::cuts (k+2)
def obR(p e:Syntax):MacroM Tc:=
 match qGX (obLo p) with
 |none=>Macro.throwUnsupported
 |some cs=>
 if cs.size < 2 then Macro.throwUnsupported else
 let no (x:String):=failS (wrS (refS (appS (idS x) #[e,qGb])))
 let r:=obGo cs e
 pure ⟨orS (r.take 1++parS #[no "x1_1",no "x0_2",rcS e p]::r.drop 1++ [rcS e p]).toArray⟩
def intS(x:Syntax):Syntax:=nd "intro" #[tk "intro",nl #[x]]
def auR:Syntax:=seqS #[nd "tacticRfl" #[tk "rfl"]]
def auK:Syntax:=seqS #[qE7 "kr"]
def auD:Syntax:=seqS #[qE7 "dc"]
def auE:Syntax:=seqS #[qE7 "dk"]
def auI:Syntax:=seqS #[intS hole,nd "tacticRfl" #[tk "rfl"]]
def inS(q:Syntax)(k:Nat):Array Syntax:=#[intS (if qDW q then qIe q else qHm k)]++qH9 q k
def rcR(p:Syntax)(e:Syntax):MacroM Tc:=
 let m:=p[0]
 let as:=m[0].getSepArgs
 if p[1].getNumArgs !=0 || as.size < 2 then Macro.throwUnsupported else
 let b:=if as.size==2 then as[1]! else nd "rcasesPatMed" #[nl (m[0].getArgs.extract 2 m[0].getNumArgs)]
 let g (x:String):=idS s!"{x}9{as.size}"
 let hl (x:String):=nt "syntheticHole" #[tk "?",g x]
 let cs (x:String) (q:Syntax):=nd "case'" #[tk "case'",nl #[nd "caseArg" #[.node .none `Lean.binderIdent #[g x],nl #[]]],tk "=>",seqS (inS q (obK e 7))]
 pure ⟨orS #[parS #[wrS (refS (appS (idS "Or.elim") #[e,hl "a",hl "b"])),cs "b" b,cs "a" as[0]!],obS e m]⟩
def riR(ps:Array Syntax):MacroM Tc:=
 if ps.any λp=>!p.isOfKind `Lean.Parser.Tactic.rintroPat.one || (p.find? λn=>n.isOfKind `Lean.Parser.Tactic.rcasesPatMed && n[0].getNumArgs > 1).isSome then Macro.throwUnsupported else
 pure ⟨parS (ps.foldl (λa p=>a++inS p[0] 7) #[])⟩
def rwR(rs:Array Syntax):MacroM Tc:=
 let one (s:Syntax):Syntax:=
  let t:=s[1]
  let f:=idS (if s[0].getNumArgs !=0 then "rwr" else "rwl")
  let by':=(s.find? λn=>n.isOfKind `Lean.Parser.Term.byTactic || n.isOfKind `Lean.Parser.Term.byTactic').isSome
  let go (t:Syntax):=let x:=refS (appS f #[t,qGb]);if by' then x else kwS "withReducibleAndInstances" "with_reducible_and_instances" x
  let l:=if t.isIdent || t.isOfKind `Lean.Parser.Term.app then #[go (appS t #[nt "ellipsis" #[tk ".."]])]else #[]
  if(s.find? λn=>n.isOfKind `Lean.Parser.Term.syntheticHole).isSome then rewS s else
  orS (l++ #[go t,rewS s])
 pure ⟨parS ((rs.map one).push (kwS "tacticTry_" "try" (wrS (nd "tacticRfl" #[tk "rfl"]))))⟩
def asmS(n:String):Syntax:=refS (appS (idS n) #[nt "byTactic" #[tk "by",seqS #[wrS (qE7 "am")]],wordS "!dc"])
def omR:MacroM Tc:=pure ⟨orS #[wrS (qE7 "am"),asmS "Nat.le_trans",asmS "Nat.lt_of_lt_of_le",asmS "nC",asmS "Nat.lt_of_le_of_lt",asmS "nE1",asmS "nE2",asmS "nE3",tc "lia",nd "omega" #[tk "omega",cfgS #[nd "configItem" #[nd "posConfigItem" #[tk "+",idS "splitDisjunctions"]]]]]⟩
def exS(e:Syntax):Syntax:=nt "explicit" #[tk "@",e]
def clrS(e:Syntax):Syntax:=nd "clear" #[tk "clear",nl #[e]]
def repS(x v:Syntax):Syntax:=nd "replace" #[tk "replace",nt "letDecl" #[nt "letIdDecl" #[nt "letId" #[x],nl #[],nl #[],tk ":=",v]]]
def subS(e:Syntax):Syntax:=nd "subst" #[tk "subst",nl #[e]]
def twoS(n:String)(e a b:Syntax)(k:Array Syntax):Syntax:=parS (#[wrS (refS (appS (idS "x0_2") #[appS (idS n) #[e],qGb])),clrS e,intS a,intS b]++k)
def casS(e:Syntax):Syntax:=nd "cases" #[tk "cases",nl #[nd "elimTarget" #[nl #[],e]],nl #[],nl #[]]
def caR(e:Ident):MacroM Tc:=do
 let a:=idS "o1'"
 let b:=idS "o2'"
 let no (x:Syntax):=kwS "failIfSuccess" "fail_if_success" x
 pure ⟨orS #[parS #[no (no (wrS (repS b (appS (idS "Eq.symm") #[e])))),subS e],parS #[nd "injection" #[tk "injection",e,nl #[]],nd "done" #[tk "done"]],parS #[wrS (repS e (appS (idS "Option.some.inj") #[e])),casS e],
  twoS "List.cons.inj" e a b #[casS a,casS b],twoS "Prod.mk.inj" e a b #[casS a,casS b],casS (exS e)]⟩
def inR(e:Ident)(xs:Array Syntax):MacroM Tc:=do
 let pe:=exS e
 let f:=nd "injection" #[tk "injection",pe,nl #[tk "with",nl xs]]
 let asm:=kwS "tacticTry_" "try" (nd "assumption" #[tk "assumption"])
 if xs.size==1 then
  let x:=xs[0]!
  pure ⟨orS #[parS (#[wrS (repS x (appS (idS "Option.some.inj") #[e]))]++(if x.getId==e.getId then #[]else #[kwS "tacticTry_" "try" (clrS e)])++ #[asm]),f]⟩
 else if xs.size==2 then pure ⟨orS #[twoS "List.cons.inj" e xs[0]! xs[1]! #[asm],twoS "Prod.mk.inj" e xs[0]! xs[1]! #[asm],f]⟩
 else Macro.throwUnsupported
end
local macro_rules | `(tactic|obtain $p:rcasesPatMed:= $e:term)=>obR p e
local macro_rules | `(tactic|rcases $e:term with $p:rcasesPatLo)=>rcR p e
local macro_rules | `(tactic|rw[$rs,*])=>rwR rs.getElems
local macro_rules | `(tactic|walk_at $s:str)=>hook s.getString
local macro_rules | `(tactic|rintro $ps:rintroPat*)=>riR ps
local macro_rules | `(tactic|omega)=>omR
local macro_rules | `(tactic|cases $e:ident)=>caR e
local macro_rules | `(tactic|injection $e:ident with $xs*)=>inR e (xs.map (·.raw))
noncomputable abbrev pw:Program:=PySem.Challenge.pw_nz0331_01
inductive D where
 |none
 |bool(b:Bool)
 |int(i:Int)
 |str(s:Str)
 |bytes(b:Array UInt8)
 |tup(l:List D)
 |lst(l:List D)
 |inst(C:Addr)(fs:List (Str × D))
 |raw(o:Obj)
 |slc(lo hi:Option Int)
 |obj(a:Addr)
 |blt(id:String)
 |typ(n:String)
 |fn(o:Obj)
noncomputable def D.flat(d:D):Bool:=(Nat.beq d.ctorIdx 11).not
def Le(g g':Heap):Prop:=∀b o,g.get? b=some o→g'.get? b=some o
theorem Le.refl(g:Heap):Le g g:=λ_ _ e=>e
theorem Le.trans{g g' g'':Heap}(x:Le g g')(y:Le g' g''):Le g g'':=λb o e=>y b o (x b o e)
class inductive DV (g:Heap):D→Value→Prop
 |none:DV g .none .none
 |bool (b:Bool):DV g (.bool b) (.bool b)
 |int (i:Int) (t:Tok):DV g (.int i) (.int i t)
 |str (x:Str) (t:Tok):DV g (.str x) (.str x t)
 |bytes (b:Array UInt8) (t:Tok):DV g (.bytes b) (.bytes b t)
 |tup' {a:Addr} {vs:List Value} {ds:List D}:IsTup g a vs.toArray→vs.length=ds.length→(∀(i:Nat) (d:D) (v:Value),ds[i]? =some d→vs[i]? =some v→DV g d v)→DV g (.tup ds) (.ref a)
 |lst' {a:Addr} {vs:List Value} {ds:List D}:g.IsList a vs.toArray→vs.length=ds.length→(∀(i:Nat) (d:D) (v:Value),ds[i]? =some d→vs[i]? =some v→DV g d v)→DV g (.lst ds) (.ref a)
 |inst' {a dx:Addr} {C:Addr} {fs:List (Str × D)} {es:List DictEntry} {n:Nat}:g.get? a=some (instObj C dx)→g.get? dx=some (dictOf es n)→es.length=fs.length→(∀(i:Nat) (x:Str) (d:D) (e:DictEntry),fs[i]? =some (x,d)→es[i]? =some e→∃t,e.key= .str x t)→(∀(i:Nat) (x:Str) (d:D) (e:DictEntry),fs[i]? =some (x,d)→es[i]? =some e→DV g d e.val)→DV g (.inst C fs) (.ref a)
 |slc {a:Addr} {l u:Value} {lo hi:Option Int}:g.IsSliceOf a l u .none→IsPart l lo→IsPart u hi→DV g (.slc lo hi) (.ref a)
 |raw {a:Addr} {o:Obj}:g.get? a=some o→DV g (.raw o) (.ref a)
 |obj (a:Addr):DV g (.obj a) (.ref a)
 |blt (id:String):DV g (.blt id) (.builtin id)
 |typ (n:String):DV g (.typ n) (.type n)
 |fn {a:Addr} {o:Obj} {fd:FuncData}:g.get? a=some o→o.data= .func fd→g.CodeRec fd.code fd.qualname→DV g (.fn o) (.ref a)
def DVs(g:Heap)(ds:List D)(vs:List Value):Prop:=vs.length=ds.length∧∀(i:Nat) (d:D) (v:Value),ds[i]? =some d→vs[i]? =some v→DV g d v
def Flds(g:Heap)(fs:List (Str × D))(es:List DictEntry):Prop:=es.length=fs.length∧(∀(i:Nat) (x:Str) (d:D) (e:DictEntry),fs[i]? =some (x,d)→es[i]? =some e→∃t,e.key= .str x t)∧∀(i:Nat) (x:Str) (d:D) (e:DictEntry),fs[i]? =some (x,d)→es[i]? =some e→DV g d e.val
section
variable {g:Heap}{a dx:Addr}{vs:List Value}{d:D}{v:Value}{ds:List D}{fs:List (Str × D)}{es:List DictEntry}
theorem DV.tup(h:IsTup g a vs.toArray)(k:DVs g ds vs):DV g (.tup ds) (.ref a):=.tup' h k.1 k.2
theorem DV.lst(h:g.IsList a vs.toArray)(k:DVs g ds vs):DV g (.lst ds) (.ref a):=.lst' h k.1 k.2
theorem DV.inst{C:Addr}{n:Nat}(h:g.get? a=some (instObj C dx))(h2:g.get? dx=some (dictOf es n))(k:Flds g fs es):DV g (.inst C fs) (.ref a):=.inst' h h2 k.1 k.2.1 k.2.2
theorem DVs.nil:DVs g [] []:=⟨rfl,λ_ _ _ h=>nomatch h⟩
theorem DVs.cons(a:DV g d v)(b:DVs g ds vs):DVs g (d::ds) (v::vs):=⟨congrArg (· +1) b.1,λi e w h k=>by
 cases i with
 |zero=>exact Option.some.inj h▸Option.some.inj k▸a
 |succ i=>exact b.2 i e w h k⟩
theorem Flds.nil:Flds g [] []:=⟨rfl,λ_ _ _ _ h=>(nomatch h),λ_ _ _ _ h=>(nomatch h)⟩
theorem Flds.cons{x:Str}{t:Tok}{hs:Int}(a:DV g d v)(b:Flds g fs es):Flds g ((x,d)::fs) (⟨hs,.str x t,v⟩::es):=⟨congrArg (· +1) b.1,λi y e w h k=>by
 cases i with
 |zero=>rw[←Option.some.inj k,←(Prod.mk.inj (Option.some.inj h)).1];exact⟨t,rfl⟩
 |succ i=>exact b.2.1 i y e w h k,λi y e w h k=>by
 cases i with
 |zero=>rw[←Option.some.inj k,←(Prod.mk.inj (Option.some.inj h)).2];exact a
 |succ i=>exact b.2.2 i y e w h k⟩
end
def DV.C(g:Heap)(P:Value→Prop):D→Prop
 | .none=>Unit→P .none
 | .bool b=>Unit→P (.bool b)
 | .int i=>∀t,P (.int i t)
 | .str x=>∀t,P (.str x t)
 | .bytes b=>∀t,P (.bytes b t)
 | .tup ds=>∀(a:Addr) (vs:List Value),IsTup g a vs.toArray→DVs g ds vs→P (.ref a)
 | .lst ds=>∀(a:Addr) (vs:List Value),g.IsList a vs.toArray→DVs g ds vs→P (.ref a)
 | .inst C fs=>∀(a dx:Addr) (es:List DictEntry) (n:Nat),g.get? a=some (instObj C dx)→g.get? dx=some (dictOf es n)→Flds g fs es→P (.ref a)
 | .slc lo hi=>∀(a:Addr) (l u:Value),g.IsSliceOf a l u .none→IsPart l lo→IsPart u hi→P (.ref a)
 | .raw o=>∀a:Addr,g.get? a=some o→P (.ref a)
 | .obj a=>Unit→P (.ref a)
 | .blt id=>Unit→P (.builtin id)
 | .typ n=>Unit→P (.type n)
 | .fn o=>∀(a:Addr) (fd:FuncData),g.get? a=some o→o.data= .func fd→g.CodeRec fd.code fd.qualname→P (.ref a)
@[elab_as_elim] theorem DV.on {g:Heap} {d:D} {v:Value} {P:Value→Prop} (h:DV g d v) (k:DV.C g P d):P v:=by
 cases h with
 |none=>exact k ()
 |bool=>exact k ()
 |int _ t=>exact k t
 |str _ t=>exact k t
 |bytes _ t=>exact k t
 |tup' a b c=>exact k _ _ a ⟨b,c⟩
 |lst' a b c=>exact k _ _ a ⟨b,c⟩
 |inst' a b c d e=>exact k _ _ _ _ a b ⟨c,d,e⟩
 |slc a b c=>exact k _ _ _ a b c
 |raw a=>exact k _ a
 |obj=>exact k ()
 |blt=>exact k ()
 |typ=>exact k ()
 |fn a b c=>exact k _ _ a b c
@[elab_as_elim] theorem DVs.on {g:Heap} {d:D} {ds:List D} {vs:List Value} {P:List Value→Prop} (h:DVs g (d::ds) vs) (k:∀v ws,DV g d v→DVs g ds ws→P (v::ws)):P vs:=by
 cases vs with
 |nil=>exact nomatch h.1
 |cons v ws=>exact k v ws (h.2 0 d v rfl rfl) ⟨Nat.succ.inj h.1,λi=>h.2 (i+1)⟩
@[elab_as_elim] theorem DVs.end {g:Heap} {vs:List Value} {P:List Value→Prop} (h:DVs g [] vs) (k:P []):P vs:=by
 cases vs with
 |nil=>exact k
 |cons v ws=>exact nomatch h.1
@[elab_as_elim] theorem Flds.on {g:Heap} {x:Str} {d:D} {fs:List (Str × D)} {es:List DictEntry} {P:List DictEntry→Prop} (h:Flds g ((x,d)::fs) es) (k:∀t hs v r,DV g d v→Flds g fs r→P (⟨hs,.str x t,v⟩::r)):P es:=by
 cases es with
 |nil=>exact nomatch h.1
 |cons e r=>
  cases e with|mk hs q v=>
  refine(h.2.1 0 x d _ rfl rfl).elim λt e=>?_
  have e:q= .str x t:=e
  subst e
  exact k t hs v r (h.2.2 0 x d _ rfl rfl) ⟨Nat.succ.inj h.1,λi=>h.2.1 (i+1),λi=>h.2.2 (i+1)⟩
@[elab_as_elim] theorem Flds.end {g:Heap} {es:List DictEntry} {P:List DictEntry→Prop} (h:Flds g [] es) (k:P []):P es:=by
 cases es with
 |nil=>exact k
 |cons e r=>exact nomatch h.1
theorem DV.mono{g g':Heap}(k:Le g g'){d:D}{v:Value}(h:DV g d v):DV g' d v:=
 DV.rec (motive:=λd v _=>DV g' d v) .none .bool .int .str .bytes (λh l _ r=>.tup' (h.keeps k) l r) (λe l _ r=>.lst' (e.at (k _)) l r) (λe e' l q _ r=>.inst' (k _ _ e) (k _ _ e') l q r)
  (λh p q=>.slc (x1_2 h λo e r=>y12 o (k _ _ e) r) p q) (λe=>.raw (k _ _ e)) .obj .blt .typ (λe q c=>.fn (k _ _ e) q (c.keeps k)) h
theorem DVs.mono{g g':Heap}(k:Le g g'){ds:List D}{vs:List Value}(h:DVs g ds vs):DVs g' ds vs:=by
 induction ds generalizing vs with
 |nil=>exact h.end .nil
 |cons d ds ih=>exact h.on λv ws d r=>.cons (d.mono k) (ih r)
theorem Flds.mono{g g':Heap}(k:Le g g'){fs:List (Str × D)}{es:List DictEntry}(h:Flds g fs es):Flds g' fs es:=by
 induction fs generalizing es with
 |nil=>exact h.end .nil
 |cons p fs ih=>exact h.on λt hs v r d e=>.cons (d.mono k) (ih e)
theorem DVs.length{g:Heap}{ds:List D}{vs:List Value}(h:DVs g ds vs):vs.length=ds.length:=by
 induction ds generalizing vs with
 |nil=>exact h.end rfl
 |cons d ds ih=>exact h.on λv ws _ r=>congrArg (· +1) (ih r)
theorem DVs.append{g:Heap}{ds es:List D}{vs ws:List Value}(h:DVs g ds vs)(k:DVs g es ws):DVs g (ds++es) (vs++ws):=by
 induction ds generalizing vs with
 |nil=>exact h.end k
 |cons d ds ih=>exact h.on λv ws h r=>.cons h (ih r)
theorem DVs.get{g:Heap}{ds:List D}{vs:List Value}(h:DVs g ds vs){k:Nat}{d:D}(hk:ds[k]? =some d):∃v,vs[k]? =some v∧DV g d v:=by
 induction ds generalizing vs k with
 |nil=>exact nomatch hk
 |cons e ds ih=>
  refine h.on λv ws h r=>?_
  cases k with
  |zero=>exact(y12 v rfl (Option.some.inj hk▸h))
  |succ k=>exact ih r hk
theorem DVs.take{g:Heap}{ds:List D}{vs:List Value}(n:Nat)(h:DVs g ds vs):DVs g (ds.take n) (vs.take n):=by
 induction ds generalizing n vs with
 |nil=>rw[List.take_nil];exact h.end (by rw[List.take_nil];exact .nil)
 |cons d ds ih=>
  refine h.on λv ws d r=>?_
  cases n with
  |zero=>exact .nil
  |succ n=>exact .cons d (ih n r)
theorem DVs.drop{g:Heap}{ds:List D}{vs:List Value}(n:Nat)(h:DVs g ds vs):DVs g (ds.drop n) (vs.drop n):=by
 induction n generalizing ds vs with
 |zero=>exact h
 |succ n ih=>
  cases ds with
  |nil=>exact h.end .nil
  |cons d ds=>exact h.on λv ws _ r=>ih r
theorem DVs.set{g:Heap}{ds:List D}{vs:List Value}(n:Nat){d:D}{v:Value}(h:DVs g ds vs)(k:DV g d v):DVs g (ds.set n d) (vs.set n v):=by
 induction ds generalizing n vs with
 |nil=>exact h.end .nil
 |cons d ds ih=>
  refine h.on λv ws d r=>?_
  cases n with
  |zero=>exact .cons k r
  |succ n=>exact .cons d (ih n r)
open Classical in
noncomputable def qBL(h:Heap)(P:Addr→Prop):Heap:=⟨h.objs.mapIdx λi o=>if P i then o else {o with data:=.freed},h.life⟩
theorem qBq(h:Heap)(P:Addr→Prop) [DecidablePred P](a:Addr):(qBL h P).get? a=if P a then h.get? a else none:=by
 unfold qBL Heap.get?
 rw[Array.getElem?_mapIdx]
 by_cases p:P a
 ·rw[if_pos p]
  cases q:h.objs[a]? with
  |none=>rfl
  |some o=>rw[Option.map_some,if_pos p]
 ·rw[if_neg p]
  cases q:h.objs[a]? with
  |none=>rfl
  |some o=>rw[Option.map_some,if_neg p]
theorem qBB{h:Heap}{P:Addr→Prop}{a:Addr}{o:Obj}(p:P a)(e:h.get? a=some o):(qBL h P).get? a=some o:=by
 classical rw[qBq,if_pos p];exact e
theorem qAq{h:Heap}{P:Addr→Prop}{a:Addr}(p:¬P a):(qBL h P).get? a=none:=by
 classical rw[qBq,if_neg p]
theorem qDV{h:Heap}{P:Addr→Prop}{a:Addr}{o:Obj}(e:(qBL h P).get? a=some o):P a∧h.get? a=some o:=by
 classical
 rw[qBq]at e
 split at e
 ·exact⟨by assumption,e⟩
 ·cases e
inductive MO where
 |list(l:List D)
 |dstr(es:List (Str × D))
 |dint(es:List (Int × D))
 |inst(C:Addr)(fs:List (Str × D))
 |barr(b:Array UInt8)
 |tab(l:List (Nat × Nat × Addr))
 |exc(C:Addr)(dx:Option Addr)(fs:List (Str × D))
noncomputable abbrev Sg:=Addr→Option MO
noncomputable def Sg.set(σ:Sg)(a:Addr)(o:MO):Sg:=λb=>if b=a then some o else σ b
def Sg.Sub(σ τ:Sg):Prop:=∀a o,σ a=some o→τ a=some o
theorem Sg.Sub.refl(σ:Sg):σ.Sub σ:=λ_ _ e=>e
theorem Sg.Sub.trans{σ τ υ:Sg}(x:σ.Sub τ)(y:τ.Sub υ):σ.Sub υ:=λa o e=>y a o (x a o e)
theorem Sg.set_same(σ:Sg)(a:Addr)(o:MO):σ.set a o a=some o:=by simp[Sg.set]
theorem Sg.set_ne(σ:Sg){a b:Addr}(o:MO)(h:b≠a):σ.set a o b=σ b:=by simp[Sg.set,h]
theorem Sg.sub_set{σ:Sg}{a:Addr}{o:MO}(h:σ a=none):σ.Sub (σ.set a o):=λb p e=>by
 rw[Sg.set_ne];exact e
 rintro rfl;rw[h]at e;cases e
class inductive Prs {K:Type} (g:Heap):List (K × D)→List (K × Value)→Prop
 |nil:Prs g [] []
 |cons {k:K} {d:D} {v:Value} {es:List (K × D)} {kvs:List (K × Value)}:DV g d v→Prs g es kvs→Prs g ((k,d)::es) ((k,v)::kvs)
theorem Prs.mono{K:Type}{g g':Heap}(k:Le g g'){fs:List (K × D)}{es:List (K × Value)}(h:Prs g fs es):Prs g' fs es:=by
 induction h with
 |nil=>exact .nil
 |cons h _ ih=>exact .cons (h.mono k) ih
noncomputable def lamQ:Str:="law.<locals>.<lambda>"
noncomputable def tabL:List (Nat × Nat × Addr)→List Value
 | []=>[]
 |(l,c,a)::r=>rawInt l::rawInt c:: .ref a::tabL r
noncomputable def qIO(l:List (Nat × Nat × Addr)):Obj:= {cls:=.none,data:=.fields (tabL l).toArray}
def MRep(w:World)(g h:Heap)(a:Addr):MO→Prop
 | .list l=>∃vs n,h.get? a=some (listOf vs n)∧DVs g l vs.toList
 | .dstr es=>∃kvs,h.DictOf (strKind pw w) a kvs∧Prs g es kvs
 | .dint es=>∃kvs,h.DictOf (intKind pw w) a kvs∧Prs g es kvs
 | .inst C fs=>h.get? a=some (instObj C (a - 1))∧∃es n,h.get? (a - 1)=some (dictOf es n)∧Flds g fs es
 | .barr b=>h.get? a=some {cls:=.type "bytearray",data:=.bytearray b}
 | .tab l=>h.get? a=some (qIO l)∧∀x∈l,g.CodeRec (.ref x.2.2) lamQ
 | .exc C dx fs=>∃a0:Addr,h.get? a=some ⟨.ref C,dx,.fields #[.ref a0,.none,.none,.none,.bool false,.none],#[]⟩∧match dx with
  |none=>fs= []
  |some x=>x≠a∧∃es n,h.get? x=some (dictOf es n)∧Flds g fs es
theorem MRep.mono{w:World}{g g' h:Heap}(k:Le g g'){a:Addr}{o:MO}(r:MRep w g h a o):MRep w g' h a o:=by
 cases o with
 |list=>exact x2_2 r λvs n e r=>y22 vs n e (r.mono k)
 |dstr=>exact x1_2 r λkvs e r=>y12 kvs e (r.mono k)
 |dint=>exact x1_2 r λkvs e r=>y12 kvs e (r.mono k)
 |inst=>exact x0_2 r λe q=>⟨e,x2_2 q λes n e' r=>y22 es n e' (r.mono k)⟩
 |barr=>exact r
 |tab=>exact x0_2 r λe r=>⟨e,λx hx=>(r x hx).keeps k⟩
 |exc C dx fs=>
  cases dx with
  |none=>exact r
  |some x=>exact x1_3 r λa0 e ne q=>y13 a0 e ne (x2_2 q λes n e' r=>y22 es n e' (r.mono k))
theorem qG0{K:Type} [DecidableEq K]{p:Program}{w:World}{knd:KeyKind p w K}{h h':Heap}{a:Addr}{kvs:List (K × Value)}(x:h.DictOf knd a kvs)(e:∀o,h.get? a=some o→h'.get? a=some o):h'.DictOf knd a kvs:=
 x3_2 x λo es ep ho r=>(y32 o es ep (e o ho) r)
noncomputable def MO.at(a:Addr):MO→List Addr
 | .inst _ _=>[a,a - 1]
 | .exc _ dx _=>a::dx.toList
 | .list _=>[a]
 | .dstr _=>[a]
 | .dint _=>[a]
 | .barr _=>[a]
 | .tab _=>[a]
theorem MO.self(a:Addr)(o:MO):a∈o.at a:=by
 cases o with
 |exc C dx fs=>cases dx <;> simp[MO.at]
 |_=>simp[MO.at]
theorem qDw{h:Heap}{a b:Addr}{o:Obj}(hb:b∈[a])(e:h.get? a=some o):∃ob,h.get? b=some ob:=⟨o,List.mem_singleton.mp hb▸e⟩
theorem at_two{h:Heap}{a c b:Addr}{o p:Obj}(hb:b∈[a,c])(e:h.get? a=some o)(e':h.get? c=some p):∃ob,h.get? b=some ob:=(List.mem_cons.mp hb).elim (λz=>⟨o,z▸e⟩) λz=>qDw z e'
theorem MRep.here{w:World}{g h:Heap}{a:Addr}{o:MO}(r:MRep w g h a o)(b:Addr)(hb:b∈o.at a):∃ob,h.get? b=some ob:=by
 cases o with
 |list=>exact x2_2 r λvs n e _=>qDw hb e
 |dstr=>exact x1_2 r λkvs e _=>x3_2 e λ_ _ _ e _=>qDw hb e
 |dint=>exact x1_2 r λkvs e _=>x3_2 e λ_ _ _ e _=>qDw hb e
 |inst=>exact x0_2 r λe q=>x2_2 q λes n e' _=>at_two hb e e'
 |barr=>exact qDw hb r
 |tab=>exact qDw hb r.1
 |exc C dx fs=>
  cases dx with
  |none=>exact x1_2 r λa0 e _=>qDw hb e
  |some x=>exact x1_3 r λa0 e ne q=>x2_2 q λes n e' _=>at_two hb e e'
theorem MRep.heap{w:World}{g h h':Heap}{a:Addr}{o:MO}(r:MRep w g h a o)(k:∀b∈o.at a,∀ob,h.get? b=some ob→h'.get? b=some ob):MRep w g h' a o:=by
 have k0:=k a (o.self a)
 cases o with
 |list=>exact x2_2 r λvs n e r=>y22 vs n (k0 _ e) r
 |dstr=>exact x1_2 r λkvs e r=>y12 kvs (qG0 e k0) r
 |dint=>exact x1_2 r λkvs e r=>y12 kvs (qG0 e k0) r
 |inst=>exact x0_2 r λe q=>⟨k0 _ e,x2_2 q λes n e' r=>y22 es n (k _ (List.mem_cons_of_mem _ (List.mem_singleton_self _)) _ e') r⟩
 |barr=>exact k0 _ r
 |tab=>exact x0_2 r λe r=>⟨k0 _ e,r⟩
 |exc C dx fs=>
  cases dx with
  |none=>exact x1_2 r λa0 e r=>y12 a0 (k0 _ e) r
  |some x=>exact x1_3 r λa0 e ne q=>y13 a0 (k0 _ e) ne (x2_2 q λes n e' r=>y22 es n (k _ (List.mem_cons_of_mem _ (List.mem_singleton_self _)) _ e') r)
def qAz(o:Obj):Prop:=∃es ep,o.data= .dict es ep
def PrivAt(h:Heap)(p:Addr × Obj):Prop:=h.get? p.1=some p.2∨(qAz p.2∧∃sl,h.get? p.1=some {p.2 with slots:=sl})
theorem PrivAt.there{h:Heap}{p:Addr × Obj}(x:PrivAt h p):∃o,h.get? p.1=some o:=by
 rcases x with e| ⟨_,sl,e⟩
 ·exact⟨_,e⟩
 ·exact⟨_,e⟩
theorem PrivAt.flat{h:Heap}{p:Addr × Obj}(x:PrivAt h p)(n:¬qAz p.2):h.get? p.1=some p.2:=x.elim id λq=>absurd q.1 n
theorem PrivAt.le{h h':Heap}{p:Addr × Obj}(x:PrivAt h p)(k:∀o,h.get? p.1=some o→h'.get? p.1=some o):PrivAt h' p:=
 x.imp (k _) λ⟨d,sl,e⟩=>⟨d,sl,k _ e⟩
structure Rel(w:World)(g:Heap)(R:List (Addr × Obj))(σ:Sg)(h:Heap):Prop where
 keep:Le g h
 priv:∀p∈R,g.get? p.1=none∧PrivAt h p
 nodup:(R.map (·.1)).Nodup
 rep:∀a o,σ a=some o→MRep w g h a o
 off:∀a o,σ a=some o→∀b∈o.at a,g.get? b=none∧b∉R.map (·.1)
 apart:∀a o a' o',σ a=some o→σ a'=some o'→a≠a'→∀b∈o.at a,b∉o'.at a'
theorem qAU{h:Heap}{b:Addr}(n:∀o,h.get? b≠some o):h.get? b=none:=by
 cases q:h.get? b with
 |none=>rfl
 |some o=>exact absurd q (n o)
theorem Rel.taken{w:World}{g:Heap}{R:List (Addr × Obj)}{σ:Sg}{h:Heap}(x:Rel w g R σ h){b:Addr}(e:h.get? b=none):g.get? b=none∧b∉R.map (·.1)∧∀a o,σ a=some o→b∉o.at a:=by
 refine(y03 (qAU λo q=>?_) (λhm=>?_) (λa o q hm=>?_))
 ·rw[x.keep b o q]at e;cases e
 ·obtain⟨p,hp,rfl⟩:=List.mem_map.mp hm
  obtain⟨o,ho⟩:=(x.priv p hp).2.there
  rw[ho]at e;cases e
 ·obtain⟨ob,ho⟩:=(x.rep a o q).here b hm
  rw[ho]at e;cases e
theorem Rel.ext{w:World}{g:Heap}{R:List (Addr × Obj)}{σ:Sg}{h h':Heap}(x:Rel w g R σ h)(k:Le h h'):Rel w g R σ h' where
 keep:=x.keep.trans k
 priv:=λp hp=>⟨(x.priv p hp).1,(x.priv p hp).2.le λo=>k _ o⟩
 nodup:=x.nodup
 rep:=λa o e=>(x.rep a o e).heap λb _ ob=>k b ob
 off:=x.off
 apart:=x.apart
theorem Rel.forget{w:World}{g:Heap}{R:List (Addr × Obj)}{σ τ:Sg}{h:Heap}(x:Rel w g R σ h)(k:τ.Sub σ):Rel w g R τ h where
 keep:=x.keep
 priv:=x.priv
 nodup:=x.nodup
 rep:=λa o e=>x.rep a o (k a o e)
 off:=λa o e=>x.off a o (k a o e)
 apart:=λa o a' o' e e'=>x.apart a o a' o' (k a o e) (k a' o' e')
def Free(R:List (Addr × Obj))(σ:Sg)(b:Addr):Prop:=b∉R.map (·.1)∧∀a o,σ a=some o→b∉o.at a
theorem Rel.grow{w:World}{g:Heap}{R:List (Addr × Obj)}{σ:Sg}{h:Heap}(x:Rel w g R σ h):
  ∃g',Le g g'∧Rel w g' R σ h∧∀b o,h.get? b=some o→Free R σ b→g'.get? b=some o:=by
 have le:Le g (qBL h (Free R σ)):=λb o e=>by
  refine qBB ⟨λhm=>?_,λa o' q hm=>?_⟩ (x.keep b o e)
  ·obtain⟨p,hp,rfl⟩:=List.mem_map.mp hm
   rw[(x.priv p hp).1]at e;cases e
  ·rw[(x.off a o' q b hm).1]at e;cases e
 refine(y13 (qBL h (Free R σ)) le ⟨λb o e=>(qDV e).2,λp hp=>⟨qAq λq=>q.1 (List.mem_map_of_mem hp),(x.priv p hp).2⟩,x.nodup,λa o e=>(x.rep a o e).mono le,
  λa o e b hb=>⟨qAq λq=>q.2 a o e hb,(x.off a o e b hb).2⟩,x.apart⟩ (λb o e f=>qBB f e))
theorem Rel.growBut{w:World}{g:Heap}{R:List (Addr × Obj)}{σ:Sg}{h:Heap}(x:Rel w g R σ h){e:Addr}(he:g.get? e=none):
  ∃g',Le g g'∧Rel w g' R σ h∧g'.get? e=none∧∀b o,b≠e→h.get? b=some o→Free R σ b→g'.get? b=some o:=by
 have le:Le g (qBL h (λb=>Free R σ b∧b≠e)):=λb o q=>by
  refine qBB ⟨⟨λhm=>?_,λa o' q' hm=>?_⟩,λz=>by rw[z,he]at q;cases q⟩ (x.keep b o q)
  ·obtain⟨p,hp,rfl⟩:=List.mem_map.mp hm
   rw[(x.priv p hp).1]at q;cases q
  ·rw[(x.off a o' q' b hm).1]at q;cases q
 exact(y14 _ le ⟨λb o q=>(qDV q).2,λp hp=>⟨qAq λq=>q.1.1 (List.mem_map_of_mem hp),(x.priv p hp).2⟩,x.nodup,λa o q=>(x.rep a o q).mono le,
  λa o q b hb=>⟨qAq λz=>z.1.2 a o q hb,(x.off a o q b hb).2⟩,x.apart⟩ (qAq λq=>q.2 rfl) (λb o n q f=>qBB ⟨f,n⟩ q))
theorem Rel.new{w:World}{g:Heap}{R:List (Addr × Obj)}{σ:Sg}{h h':Heap}(x:Rel w g R σ h)(k:Le h h'){a:Addr}{o:MO}(fresh:∀b∈o.at a,h.get? b=none)(r:MRep w g h' a o):Rel w g R (σ.set a o) h':=by
 have sa:∀b p,σ.set a o b=some p→b=a∧p=o∨b≠a∧σ b=some p:=λb p e=>by
  by_cases q:b=a
  ·subst q;rw[Sg.set_same]at e;exact .inl ⟨rfl,(Option.some.inj e).symm⟩
  ·rw[Sg.set_ne _ _ q]at e;exact .inr ⟨q,e⟩
 have x':=x.ext k
 refine⟨x'.keep,x'.priv,x'.nodup,λb p e=>?_,λb p e c hc=>?_,λb p b' p' e e' n c hc hc'=>?_⟩
 ·rcases sa b p e with⟨rfl,rfl⟩| ⟨_,e⟩
  ·exact r
  ·exact x'.rep b p e
 ·rcases sa b p e with⟨rfl,rfl⟩| ⟨_,e⟩
  ·obtain⟨t1,t2,_⟩:=x.taken (fresh c hc);exact⟨t1,t2⟩
  ·exact x.off b p e c hc
 ·rcases sa b p e with⟨rfl,rfl⟩| ⟨n1,e1⟩
  ·rcases sa b' p' e' with⟨rfl,rfl⟩| ⟨n2,e'⟩
   ·exact n rfl
   ·exact(x.taken (fresh c hc)).2.2 b' p' e' hc'
  ·rcases sa b' p' e' with⟨z1,z2⟩| ⟨n2,e'⟩
   ·subst z1 z2;exact(x.taken (fresh c hc')).2.2 b p e1 hc
   ·exact x.apart b p b' p' e1 e' n c hc hc'
theorem Rel.turn{w:World}{g:Heap}{R:List (Addr × Obj)}{σ:Sg}{h h':Heap}(x:Rel w g R σ h){a:Addr}{o o':MO}(e:σ a=some o)(at':∀b∈o'.at a,b∈o.at a)
  (k:∀b ob,b∉o.at a→h.get? b=some ob→h'.get? b=some ob)(r:MRep w g h' a o'):Rel w g R (σ.set a o') h':=by
 have sa:∀b p,σ.set a o' b=some p→b=a∧p=o'∨b≠a∧σ b=some p:=λb p e=>by
  by_cases q:b=a
  ·subst q;rw[Sg.set_same]at e;exact .inl ⟨rfl,(Option.some.inj e).symm⟩
  ·rw[Sg.set_ne _ _ q]at e;exact .inr ⟨q,e⟩
 refine⟨λb ob q=>k b ob (λhm=>by rw[(x.off a o e b hm).1]at q;cases q) (x.keep b ob q),λp hp=>⟨(x.priv p hp).1,(x.priv p hp).2.le λob=>k _ ob λhm=>(x.off a o e _ hm).2 (List.mem_map_of_mem hp)⟩,x.nodup,λb p q=>?_,λb p q c hc=>?_,λb p b' p' q q' n c hc hc'=>?_⟩
 ·rcases sa b p q with⟨rfl,rfl⟩| ⟨n,q⟩
  ·exact r
  ·exact(x.rep b p q).heap λc hc ob=>k c ob (x.apart b p a o q e n c hc)
 ·rcases sa b p q with⟨rfl,rfl⟩| ⟨n,q⟩
  ·exact x.off _ _ e c (at' c hc)
  ·exact x.off b p q c hc
 ·rcases sa b p q with⟨rfl,rfl⟩| ⟨n1,q1⟩
  ·rcases sa b' p' q' with⟨rfl,rfl⟩| ⟨n2,q'⟩
   ·exact n rfl
   ·exact x.apart _ _ b' p' e q' (Ne.symm n2) c (at' c hc) hc'
  ·rcases sa b' p' q' with⟨z1,z2⟩| ⟨n2,q'⟩
   ·subst z1 z2;exact x.apart b p _ _ q1 e n1 c hc (at' c hc')
   ·exact x.apart b p b' p' q1 q' n c hc hc'
theorem Rel.aside{w:World}{g:Heap}{R:List (Addr × Obj)}{σ:Sg}{h h':Heap}(x:Rel w g R σ h){f:Addr→Prop}(hf:∀b,f b→g.get? b=none∧Free R σ b)(k:∀b ob,¬f b→h.get? b=some ob→h'.get? b=some ob):Rel w g R σ h' where
 keep:=λb ob q=>k b ob (λz=>by rw[(hf b z).1]at q;cases q) (x.keep b ob q)
 priv:=λp hp=>⟨(x.priv p hp).1,(x.priv p hp).2.le λob=>k _ ob λz=>(hf _ z).2.1 (List.mem_map_of_mem hp)⟩
 nodup:=x.nodup
 rep:=λb p q=>(x.rep b p q).heap λc hc ob=>k c ob λz=>(hf c z).2.2 b p q hc
 off:=x.off
 apart:=x.apart
theorem said:(PySem.Challenge.rw_nz0331_01).wellSaid=true:=by
 delta OpenLaw.wellSaid OpenRow.wellSaid OpenRow.partSaid looksOpen
 repeat' (with_reducible refine look_both ?_ ?_)
 all_goals decide+kernel
noncomputable def goQ(p:Program)(w:World)(n₀:Nat)(ann:Option Value):Nat→SharedT→Thread→Option SharedT
 |0,_,_=>none
 |n+1,s,t=>match through t with
  |true=>some s
  |false=>match PySem.W.Fast.tw6613529449190102663 n₀ ann t with
   |false=>none
   |true=>match PySem.W.Fast.tw10156331382660048174 (PySem.W.Fast.tw11892475500146522536 PySem.W.Fast.tw14364793385576792824) p w s t with
    |some (s',t')=>goQ p w n₀ ann n s' t'
    |none=>none
theorem goQ_spec{p:Program}{w:World}{n₀:Nat}{ann:Option Value}{n:Nat}{s s₁:SharedT}{t:Thread}(h:goQ p w n₀ ann n s t=some s₁):topRun treeTable p w n₀ ann n s.abs t=some s₁.abs:=by
 induction n generalizing s t with
 |zero=>cases h
 |succ n ih=>
  unfold goQ at h
  unfold topRun
  rw[←PySem.W.Fast.te10156331382660048174,←PySem.W.Fast.te11892475500146522536,←PySem.W.Fast.te14364793385576792824,←PySem.W.Fast.te6613529449190102663]at h
  cases ht:through t with
  |true=>rw[ht]at h;cases h;rfl
  |false=>
   rw[ht]at h
   cases hk:stepOk n₀ ann t with
   |false=>rw[hk]at h;cases h
   |true=>
    rw[hk]at h
    cases hs:stepT (denote treeTable) p w s t with
    |none=>rw[hs]at h;cases h
    |some r=>obtain⟨s₂,t₂⟩:=r;rw[hs]at h;rw[stepT_spec hs];exact ih h
noncomputable def qIk(q:Program)(loose mods:List Str)(Xt:Shared→Bool)(h₀:Heap)(p:Program){α:Type}(Yf:Shared→α)(s:Shared):=
 ((staticsOk mods h₀ s.heap && namesBound p s.heap && gensDone s && laidKept h₀ s.heap),PySem.W.Fast.tw4187177175401517315 q loose mods Xt true s,Yf s)
theorem qGa{p q:Program}{loose:List Str}{Xt:Shared→Bool}{α:Type}{Yf:Shared→α}{Ya:World→α}{N:Nat}{H₀:Params→Heap}{T₀:Params→BT}{n₀:Nat}{life:Life}{gs₀:Array GenState}{d₀:Drawn}{k₀:Nat}{m₀:Nat}{ann:Option Value}{M:Nat}
  (open_:∀w:World,(fencedOpening treeTable p w N).map (λs=>(s.heap,s.gens,s.drawn,s.toks))=some (H₀ w.params,gs₀,d₀,k₀))
  (abs₀:∀w:World,H₀ w.params=absHeap (T₀ w.params) n₀ life)
  (size:∀w:World,((H₀ w.params).isNs mainGlobals && gs₀.size==0,(H₀ w.params).objs.size,(H₀ w.params).nsMap mainGlobals "__annotations__")=(true,m₀,ann))(le:Nat.ble M N=true)
  (run:∀(w:World) (os:OsState),(goQ p w m₀ ann M ⟨T₀ w.params,n₀,life,gs₀,d₀,k₀,os⟩ (topStub p)).map (λs=>qIk q loose (importedModules p.main.body) Xt (H₀ w.params) p Yf s.abs)=some (true,openGood q loose,Ya w)):LeftO p q loose Xt Yf Ya N:=λw=>by
 obtain⟨⟨h,gs,d,k,os⟩,e,e'⟩:=Option.map_eq_some_iff.mp (open_ w)
 obtain⟨rfl,rfl,rfl,rfl⟩:h=H₀ w.params∧gs=gs₀∧d=d₀∧k=k₀:=by simpa using e'
 obtain⟨z1,z2,z3⟩:_∧_∧_:=by simpa only[Prod.mk.injEq] using size w
 obtain⟨s₁,hr,hl⟩:=Option.map_eq_some_iff.mp (run w os)
 have r:=goQ_spec hr
 have e0:(SharedT.abs ⟨T₀ w.params,n₀,life,gs,d,k,os⟩)=⟨H₀ w.params,gs,d,k,os⟩:=by unfold SharedT.abs;rw[←abs₀ w]
 rw[e0]at r
 unfold qIk at hl
 rw[←PySem.W.Fast.te4187177175401517315]at hl
 obtain⟨l1,l2,l3⟩:_∧_∧_:=by simpa only[Prod.mk.injEq] using hl
 have r:=topRun_mono (N - M) _ _ _ _ r
 rw[show M+(N - M)=N from Nat.add_sub_cancel' (Nat.le_of_ble_eq_true le)]at r
 have t:topFrom treeTable p w N ⟨H₀ w.params,gs,d,k,os⟩=some s₁.abs:=by
  unfold topFrom
  dsimp only
  rw[z1,z2,z3,r]
  show(match staticsOk (importedModules p.main.body) (H₀ w.params) s₁.abs.heap && namesBound p s₁.abs.heap && gensDone s₁.abs && laidKept (H₀ w.params) s₁.abs.heap with|true=>_|false=>_)=_
  rw[l1]
 unfold openEnds
 rw[e]
 show(topFrom treeTable p w N _).map _=_
 rw[t]
 exact congrArg some (Prod.ext l2 l3)
noncomputable def mkT:List Obj→Nat→BT→BT
 | [],_,t=>t
 |o::r,n,t=>mkT r (n+1) (t.ins n o)
noncomputable def T0(P:Params):BT:=mkT (boot_heap P).objs.toList 0 .nil
noncomputable abbrev rw':OpenLaw:=PySem.Challenge.rw_nz0331_01
noncomputable def qIg:Stmt:=.Pass ⟨0,0,0,0⟩
noncomputable def stAt(i:Nat):Stmt:=pw.main.body.getD i qIg
noncomputable def meAt(i j:Nat):Stmt:=if h:(stAt i).ctorIdx=2 then Stmt.ClassDef.elim (motive_2:=λ_=>Stmt) (stAt i) h λ_ _ _ b _ _ _ _ _ _ _=>b.getD j qIg else qIg
noncomputable def fnSel{α:Type}(s:Stmt)(z:α)(f:Arguments→List Stmt→Scope→α):α:=if h:s.ctorIdx=0 then Stmt.FunctionDef.elim (motive_2:=λ_=>α) s h λ_ a b _ _ _ c _ _ _=>f a b c else z
noncomputable def fnArgs(s:Stmt):Arguments:=fnSel s ⟨[],[],none,[],[],none,[]⟩ λa _ _=>a
noncomputable def qBs(s:Stmt):List Stmt:=fnSel s [] λ_ b _=>b
noncomputable def qA3(s:Stmt):Scope:=fnSel s {kind:=.module,names:=[],isGenerator:=false,isCoroutine:=false} λ_ _ c=>c
noncomputable def fnO(st:Stmt)(name qual:Str)(dV pm:Value)(cd:Addr):Obj:=⟨.type "function",none,.func (fnOf name qual (fnArgs st) (qBs st) (qA3 st) dV .none .none pm none (.ref cd) .none),#[]⟩
noncomputable def dataN(d:Data):Option Str:=if e:d.ctorIdx=9 then Data.fields.elim (motive:=λ_=>Option Str) d e λvs=>vs.toList[1]?.bind λv=>if e:v.ctorIdx=6 then Value.str.elim (motive:=λ_=>Option Str) v e λq _=>some q else none else none
noncomputable def qF7(h:Heap)(c:Addr):Option Str:=(h.get? c).bind λo=>dataN o.data
noncomputable def kAddrs:List Addr:=[1,2,22,29,36,38,39,40,51,52,63,64,75,76,85,92,99,106,120,127,134,136,137,138,139,155,162,167,172,174,175,176,177,184,191,198,205,212,217,222,227,232,237,244,245,250,257,262,269,276,283,290,297,302,309,316,323,330,337,344,351,358,365,372,377,384,391,398,405,412,419,433,440,447,454,459,461,462,463,464,473,478,483,490,497,504,511,518,525,532,537,544,551,558,563,570,577,584,591,598,603,610,615,622,627,634,639,646,654,661,668,675,682,684,685,686,687,694,701,708,713,718,723,730,737,744,743]
noncomputable def KF(P:Params):Frag:=[
 (1,⟨.type "dict",none,.dict #[⟨PyData.keyHash P "builtins",.str "builtins" 162,.ref 4⟩,⟨PyData.keyHash P "__main__",.str "__main__" 163,.ref 5⟩] 2,#[]⟩),
 (2,⟨.none,none,.dict #[⟨PyData.keyHash P "type.__subclasses__.Exception.0",.str "type.__subclasses__.Exception.0" 225,.int 39 0⟩,⟨PyData.keyHash P "type.__subclasses__.Exception.n",.str "type.__subclasses__.Exception.n" 226,.int 1 0⟩] 2,#[]⟩),
 (22,⟨.type "tuple",none,.seq #[.int (-1) 202],#[]⟩),
 (29,fnO (meAt 1 0) "__init__" "PostError.__init__" (.ref 22) (.str "postkeep.errors" 187) 28),
 (36,fnO (meAt 1 1) "told" "PostError.told" (.none) (.str "postkeep.errors" 187) 35),
 (38,⟨.type "dict",none,.dict #[⟨PyData.keyHash P "__module__",.str "__module__" 196,.str "postkeep.errors" 187⟩,⟨PyData.keyHash P "__firstlineno__",.str "__firstlineno__" 200,.int 2 199⟩,⟨PyData.keyHash P "__init__",.str "__init__" 211,.ref 29⟩,⟨PyData.keyHash P "told",.str "told" 218,.ref 36⟩,⟨PyData.keyHash P "__static_attributes__",.str "__static_attributes__" 221,.ref 37⟩,⟨PyData.keyHash P "__weakref__",.str "__weakref__" 223,.ref 40⟩,⟨PyData.keyHash P "__doc__",.str "__doc__" 224,.none⟩] 3,#[]⟩),
 (39,⟨.type "type",none,.cls {name:="PostError",bases:=[.type "Exception"],mro:=[.ref 39,.type "Exception",.type "BaseException",.type "object"],ns:=38,qualname:="PostError",hasDict:=true,slotNames:=[],subclasses:=[.ref 52,.ref 64,.ref 76],abstract:=false,collection:=none,hasDel:=false},#[some (.ref 15),none,some (.str "PostError" 189),some (.str "PostError" 197),some (.builtin "Exception.__new__"),some (.bool true)]⟩),
 (40,⟨.type "getset_descriptor",none,.fields #[.str "__weakref__" 222,.ref 39,.builtin "ExceptionGroup.__weakref__",.none],#[]⟩),
 (51,⟨.type "dict",none,.dict #[⟨PyData.keyHash P "__module__",.str "__module__" 236,.str "postkeep.errors" 187⟩,⟨PyData.keyHash P "__firstlineno__",.str "__firstlineno__" 240,.int 11 239⟩,⟨PyData.keyHash P "__static_attributes__",.str "__static_attributes__" 241,.ref 50⟩,⟨PyData.keyHash P "__doc__",.str "__doc__" 242,.none⟩] 2,#[]⟩),
 (52,⟨.type "type",none,.cls {name:="NameFault",bases:=[.ref 39],mro:=[.ref 52,.ref 39,.type "Exception",.type "BaseException",.type "object"],ns:=51,qualname:="NameFault",hasDict:=true,slotNames:=[],subclasses:=[],abstract:=false,collection:=none,hasDel:=false},#[some (.ref 43),none,some (.str "NameFault" 229),some (.str "NameFault" 237),some (.builtin "Exception.__new__"),some (.bool true)]⟩),
 (63,⟨.type "dict",none,.dict #[⟨PyData.keyHash P "__module__",.str "__module__" 252,.str "postkeep.errors" 187⟩,⟨PyData.keyHash P "__firstlineno__",.str "__firstlineno__" 256,.int 13 255⟩,⟨PyData.keyHash P "__static_attributes__",.str "__static_attributes__" 257,.ref 62⟩,⟨PyData.keyHash P "__doc__",.str "__doc__" 258,.none⟩] 2,#[]⟩),
 (64,⟨.type "type",none,.cls {name:="LogFault",bases:=[.ref 39],mro:=[.ref 64,.ref 39,.type "Exception",.type "BaseException",.type "object"],ns:=63,qualname:="LogFault",hasDict:=true,slotNames:=[],subclasses:=[],abstract:=false,collection:=none,hasDel:=false},#[some (.ref 55),none,some (.str "LogFault" 245),some (.str "LogFault" 253),some (.builtin "Exception.__new__"),some (.bool true)]⟩),
 (75,⟨.type "dict",none,.dict #[⟨PyData.keyHash P "__module__",.str "__module__" 268,.str "postkeep.errors" 187⟩,⟨PyData.keyHash P "__firstlineno__",.str "__firstlineno__" 272,.int 15 271⟩,⟨PyData.keyHash P "__static_attributes__",.str "__static_attributes__" 273,.ref 74⟩,⟨PyData.keyHash P "__doc__",.str "__doc__" 274,.none⟩] 2,#[]⟩),
 (76,⟨.type "type",none,.cls {name:="StoreFault",bases:=[.ref 39],mro:=[.ref 76,.ref 39,.type "Exception",.type "BaseException",.type "object"],ns:=75,qualname:="StoreFault",hasDict:=true,slotNames:=[],subclasses:=[],abstract:=false,collection:=none,hasDel:=false},#[some (.ref 67),none,some (.str "StoreFault" 261),some (.str "StoreFault" 269),some (.builtin "Exception.__new__"),some (.bool true)]⟩),
 (85,fnO (stAt 9) "system_flags" "system_flags" (.none) (.str "postkeep.boxes" 277) 84),
 (92,fnO (stAt 10) "is_keyword" "is_keyword" (.none) (.str "postkeep.boxes" 277) 91),
 (99,fnO (stAt 11) "flag_name" "flag_name" (.none) (.str "postkeep.boxes" 277) 98),
 (106,fnO (stAt 12) "flag_tuple" "flag_tuple" (.none) (.str "postkeep.boxes" 277) 105),
 (120,fnO (meAt 13 0) "__init__" "Letter.__init__" (.none) (.str "postkeep.boxes" 277) 119),
 (127,fnO (meAt 13 1) "has" "Letter.has" (.none) (.str "postkeep.boxes" 277) 126),
 (134,fnO (meAt 13 2) "told" "Letter.told" (.none) (.str "postkeep.boxes" 277) 133),
 (136,⟨.type "dict",none,.dict #[⟨PyData.keyHash P "__module__",.str "__module__" 324,.str "postkeep.boxes" 277⟩,⟨PyData.keyHash P "__firstlineno__",.str "__firstlineno__" 328,.int 44 327⟩,⟨PyData.keyHash P "__init__",.str "__init__" 340,.ref 120⟩,⟨PyData.keyHash P "has",.str "has" 348,.ref 127⟩,⟨PyData.keyHash P "told",.str "told" 355,.ref 134⟩,⟨PyData.keyHash P "__static_attributes__",.str "__static_attributes__" 361,.ref 135⟩,⟨PyData.keyHash P "__dict__",.str "__dict__" 363,.ref 138⟩,⟨PyData.keyHash P "__weakref__",.str "__weakref__" 365,.ref 139⟩,⟨PyData.keyHash P "__doc__",.str "__doc__" 366,.none⟩] 4,#[]⟩),
 (137,⟨.type "type",none,.cls {name:="Letter",bases:=[.type "object"],mro:=[.ref 137,.type "object"],ns:=136,qualname:="Letter",hasDict:=true,slotNames:=[],subclasses:=[],abstract:=false,collection:=none,hasDel:=false},#[none,none,some (.str "Letter" 317),some (.str "Letter" 325),some (.builtin "object.__new__"),some (.bool true)]⟩),
 (138,⟨.type "getset_descriptor",none,.fields #[.str "__dict__" 362,.ref 137,.builtin "function.__dict__",.builtin "function.__dict__#set"],#[]⟩),
 (139,⟨.type "getset_descriptor",none,.fields #[.str "__weakref__" 364,.ref 137,.builtin "ExceptionGroup.__weakref__",.none],#[]⟩),
 (155,fnO (meAt 14 0) "__init__" "Box.__init__" (.none) (.str "postkeep.boxes" 277) 154),
 (162,fnO (meAt 14 1) "letter" "Box.letter" (.none) (.str "postkeep.boxes" 277) 161),
 (167,fnO (meAt 14 2) "uids" "Box.uids" (.none) (.str "postkeep.boxes" 277) 166),
 (172,fnO (meAt 14 3) "told" "Box.told" (.none) (.str "postkeep.boxes" 277) 171),
 (174,⟨.type "dict",none,.dict #[⟨PyData.keyHash P "__module__",.str "__module__" 376,.str "postkeep.boxes" 277⟩,⟨PyData.keyHash P "__firstlineno__",.str "__firstlineno__" 380,.int 58 379⟩,⟨PyData.keyHash P "__init__",.str "__init__" 389,.ref 155⟩,⟨PyData.keyHash P "letter",.str "letter" 398,.ref 162⟩,⟨PyData.keyHash P "uids",.str "uids" 404,.ref 167⟩,⟨PyData.keyHash P "told",.str "told" 410,.ref 172⟩,⟨PyData.keyHash P "__static_attributes__",.str "__static_attributes__" 418,.ref 173⟩,⟨PyData.keyHash P "__dict__",.str "__dict__" 420,.ref 176⟩,⟨PyData.keyHash P "__weakref__",.str "__weakref__" 422,.ref 177⟩,⟨PyData.keyHash P "__doc__",.str "__doc__" 423,.none⟩] 4,#[]⟩),
 (175,⟨.type "type",none,.cls {name:="Box",bases:=[.type "object"],mro:=[.ref 175,.type "object"],ns:=174,qualname:="Box",hasDict:=true,slotNames:=[],subclasses:=[],abstract:=false,collection:=none,hasDel:=false},#[none,none,some (.str "Box" 369),some (.str "Box" 377),some (.builtin "object.__new__"),some (.bool true)]⟩),
 (176,⟨.type "getset_descriptor",none,.fields #[.str "__dict__" 419,.ref 175,.builtin "function.__dict__",.builtin "function.__dict__#set"],#[]⟩),
 (177,⟨.type "getset_descriptor",none,.fields #[.str "__weakref__" 421,.ref 175,.builtin "ExceptionGroup.__weakref__",.none],#[]⟩),
 (184,fnO (stAt 15) "remade" "remade" (.none) (.str "postkeep.boxes" 277) 183),
 (191,fnO (stAt 16) "place_of" "place_of" (.none) (.str "postkeep.boxes" 277) 190),
 (198,fnO (stAt 17) "raised" "raised" (.none) (.str "postkeep.boxes" 277) 197),
 (205,fnO (stAt 18) "add_letter" "add_letter" (.none) (.str "postkeep.boxes" 277) 204),
 (212,fnO (stAt 19) "set_flags" "set_flags" (.none) (.str "postkeep.boxes" 277) 211),
 (217,fnO (stAt 20) "flags_after" "flags_after" (.none) (.str "postkeep.boxes" 277) 216),
 (222,fnO (stAt 21) "expunge" "expunge" (.none) (.str "postkeep.boxes" 277) 221),
 (227,fnO (stAt 22) "copy_letters" "copy_letters" (.none) (.str "postkeep.boxes" 277) 226),
 (232,fnO (stAt 23) "move_letters" "move_letters" (.none) (.str "postkeep.boxes" 277) 231),
 (237,fnO (stAt 24) "is_sound" "is_sound" (.none) (.str "postkeep.boxes" 277) 236),
 (244,fnO (stAt 26) "is_refused" "is_refused" (.none) (.str "postkeep.changes" 504) 243),
 (245,⟨.type "tuple",none,.seq #[.none],#[]⟩),
 (250,fnO (stAt 27) "store_flags" "store_flags" (.ref 245) (.str "postkeep.changes" 504) 249),
 (257,fnO (stAt 28) "distinct" "distinct" (.none) (.str "postkeep.changes" 504) 256),
 (262,fnO (stAt 29) "forget_gone" "forget_gone" (.none) (.str "postkeep.changes" 504) 261),
 (269,fnO (stAt 39) "count_octets" "count_octets" (.none) (.str "postkeep.logfile" 535) 268),
 (276,fnO (stAt 40) "read_count" "read_count" (.none) (.str "postkeep.logfile" 535) 275),
 (283,fnO (stAt 41) "folded_number" "folded_number" (.none) (.str "postkeep.logfile" 535) 282),
 (290,fnO (stAt 42) "plain_number" "plain_number" (.none) (.str "postkeep.logfile" 535) 289),
 (297,fnO (stAt 43) "text_codes" "text_codes" (.none) (.str "postkeep.logfile" 535) 296),
 (302,fnO (stAt 44) "value_octets" "value_octets" (.none) (.str "postkeep.logfile" 535) 301),
 (309,fnO (stAt 45) "read_text" "read_text" (.none) (.str "postkeep.logfile" 535) 308),
 (316,fnO (stAt 46) "read_some" "read_some" (.none) (.str "postkeep.logfile" 535) 315),
 (323,fnO (stAt 47) "read_value" "read_value" (.none) (.str "postkeep.logfile" 535) 322),
 (330,fnO (stAt 48) "is_row" "is_row" (.none) (.str "postkeep.logfile" 535) 329),
 (337,fnO (stAt 49) "row_octets" "row_octets" (.none) (.str "postkeep.logfile" 535) 336),
 (344,fnO (stAt 50) "read_row" "read_row" (.none) (.str "postkeep.logfile" 535) 343),
 (351,fnO (stAt 51) "adler" "adler" (.none) (.str "postkeep.logfile" 535) 350),
 (358,fnO (stAt 52) "sum_octets" "sum_octets" (.none) (.str "postkeep.logfile" 535) 357),
 (365,fnO (stAt 53) "framed" "framed" (.none) (.str "postkeep.logfile" 535) 364),
 (372,fnO (stAt 54) "row_at" "row_at" (.none) (.str "postkeep.logfile" 535) 371),
 (377,fnO (stAt 56) "upper_text" "upper_text" (.none) (.str "postkeep.octets" 702) 376),
 (384,fnO (stAt 61) "is_half" "is_half" (.none) (.str "postkeep.names" 710) 383),
 (391,fnO (stAt 62) "first_part" "first_part" (.none) (.str "postkeep.names" 710) 390),
 (398,fnO (stAt 63) "normal_name" "normal_name" (.none) (.str "postkeep.names" 710) 397),
 (405,fnO (stAt 64) "is_barred_code" "is_barred_code" (.none) (.str "postkeep.names" 710) 404),
 (412,fnO (stAt 65) "check_name" "check_name" (.none) (.str "postkeep.names" 710) 411),
 (419,fnO (stAt 66) "is_below" "is_below" (.none) (.str "postkeep.names" 710) 418),
 (433,fnO (meAt 72 0) "__init__" "Store.__init__" (.none) (.str "postkeep.store" 767) 432),
 (440,fnO (meAt 72 1) "has" "Store.has" (.none) (.str "postkeep.store" 767) 439),
 (447,fnO (meAt 72 2) "box" "Store.box" (.none) (.str "postkeep.store" 767) 446),
 (454,fnO (meAt 72 3) "names" "Store.names" (.none) (.str "postkeep.store" 767) 453),
 (459,fnO (meAt 72 4) "told" "Store.told" (.none) (.str "postkeep.store" 767) 458),
 (461,⟨.type "dict",none,.dict #[⟨PyData.keyHash P "__module__",.str "__module__" 784,.str "postkeep.store" 767⟩,⟨PyData.keyHash P "__firstlineno__",.str "__firstlineno__" 788,.int 356 787⟩,⟨PyData.keyHash P "__init__",.str "__init__" 795,.ref 433⟩,⟨PyData.keyHash P "has",.str "has" 803,.ref 440⟩,⟨PyData.keyHash P "box",.str "box" 812,.ref 447⟩,⟨PyData.keyHash P "names",.str "names" 819,.ref 454⟩,⟨PyData.keyHash P "told",.str "told" 825,.ref 459⟩,⟨PyData.keyHash P "__static_attributes__",.str "__static_attributes__" 829,.ref 460⟩,⟨PyData.keyHash P "__dict__",.str "__dict__" 831,.ref 463⟩,⟨PyData.keyHash P "__weakref__",.str "__weakref__" 833,.ref 464⟩,⟨PyData.keyHash P "__doc__",.str "__doc__" 834,.none⟩] 4,#[]⟩),
 (462,⟨.type "type",none,.cls {name:="Store",bases:=[.type "object"],mro:=[.ref 462,.type "object"],ns:=461,qualname:="Store",hasDict:=true,slotNames:=[],subclasses:=[],abstract:=false,collection:=none,hasDel:=false},#[none,none,some (.str "Store" 777),some (.str "Store" 785),some (.builtin "object.__new__"),some (.bool true)]⟩),
 (463,⟨.type "getset_descriptor",none,.fields #[.str "__dict__" 830,.ref 462,.builtin "function.__dict__",.builtin "function.__dict__#set"],#[]⟩),
 (464,⟨.type "getset_descriptor",none,.fields #[.str "__weakref__" 832,.ref 462,.builtin "ExceptionGroup.__weakref__",.none],#[]⟩),
 (473,fnO (stAt 73) "is_number" "is_number" (.none) (.str "postkeep.store" 767) 472),
 (478,fnO (stAt 74) "are_texts" "are_texts" (.none) (.str "postkeep.store" 767) 477),
 (483,fnO (stAt 75) "are_numbers" "are_numbers" (.none) (.str "postkeep.store" 767) 482),
 (490,fnO (stAt 76) "fits_shape" "fits_shape" (.none) (.str "postkeep.store" 767) 489),
 (497,fnO (stAt 77) "check_row" "check_row" (.none) (.str "postkeep.store" 767) 496),
 (504,fnO (stAt 78) "settled_name" "settled_name" (.none) (.str "postkeep.store" 767) 503),
 (511,fnO (stAt 79) "need_modseqs" "need_modseqs" (.none) (.str "postkeep.store" 767) 510),
 (518,fnO (stAt 80) "need_room" "need_room" (.none) (.str "postkeep.store" 767) 517),
 (525,fnO (stAt 81) "need_new" "need_new" (.none) (.str "postkeep.store" 767) 524),
 (532,fnO (stAt 82) "need_validity" "need_validity" (.none) (.str "postkeep.store" 767) 531),
 (537,fnO (stAt 83) "need_uids" "need_uids" (.none) (.str "postkeep.store" 767) 536),
 (544,fnO (stAt 84) "create_box" "create_box" (.none) (.str "postkeep.store" 767) 543),
 (551,fnO (stAt 85) "delete_box" "delete_box" (.none) (.str "postkeep.store" 767) 550),
 (558,fnO (stAt 86) "renamed_pairs" "renamed_pairs" (.none) (.str "postkeep.store" 767) 557),
 (563,fnO (stAt 87) "rename_box" "rename_box" (.none) (.str "postkeep.store" 767) 562),
 (570,fnO (stAt 88) "rename_inbox" "rename_inbox" (.none) (.str "postkeep.store" 767) 569),
 (577,fnO (stAt 89) "append_letter" "append_letter" (.none) (.str "postkeep.store" 767) 576),
 (584,fnO (stAt 90) "flag_letter" "flag_letter" (.none) (.str "postkeep.store" 767) 583),
 (591,fnO (stAt 91) "store_letters" "store_letters" (.none) (.str "postkeep.store" 767) 590),
 (598,fnO (stAt 92) "expunge_letters" "expunge_letters" (.none) (.str "postkeep.store" 767) 597),
 (603,fnO (stAt 93) "copy_or_move" "copy_or_move" (.none) (.str "postkeep.store" 767) 602),
 (610,fnO (stAt 94) "subscribe_name" "subscribe_name" (.none) (.str "postkeep.store" 767) 609),
 (615,fnO (stAt 95) "unsubscribe_name" "unsubscribe_name" (.none) (.str "postkeep.store" 767) 614),
 (622,fnO (stAt 96) "is_letter_told" "is_letter_told" (.none) (.str "postkeep.store" 767) 621),
 (627,fnO (stAt 97) "is_box_told" "is_box_told" (.none) (.str "postkeep.store" 767) 626),
 (634,fnO (stAt 98) "need_sound" "need_sound" (.none) (.str "postkeep.store" 767) 633),
 (639,fnO (stAt 99) "restore" "restore" (.none) (.str "postkeep.store" 767) 638),
 (646,fnO (stAt 100) "apply" "apply" (.none) (.str "postkeep.store" 767) 645),
 (654,⟨.type "tuple",none,.seq #[.bytes (#[]:Array UInt8) 1087],#[]⟩),
 (661,fnO (meAt 101 0) "__init__" "Keeper.__init__" (.ref 654) (.str "postkeep.store" 767) 660),
 (668,fnO (meAt 101 1) "replay" "Keeper.replay" (.none) (.str "postkeep.store" 767) 667),
 (675,fnO (meAt 101 2) "do" "Keeper.do" (.none) (.str "postkeep.store" 767) 674),
 (682,fnO (meAt 101 3) "told" "Keeper.told" (.none) (.str "postkeep.store" 767) 681),
 (684,⟨.type "dict",none,.dict #[⟨PyData.keyHash P "__module__",.str "__module__" 1082,.str "postkeep.store" 767⟩,⟨PyData.keyHash P "__firstlineno__",.str "__firstlineno__" 1086,.int 580 1085⟩,⟨PyData.keyHash P "__init__",.str "__init__" 1095,.ref 661⟩,⟨PyData.keyHash P "replay",.str "replay" 1105,.ref 668⟩,⟨PyData.keyHash P "do",.str "do" 1115,.ref 675⟩,⟨PyData.keyHash P "told",.str "told" 1122,.ref 682⟩,⟨PyData.keyHash P "__static_attributes__",.str "__static_attributes__" 1125,.ref 683⟩,⟨PyData.keyHash P "__dict__",.str "__dict__" 1127,.ref 686⟩,⟨PyData.keyHash P "__weakref__",.str "__weakref__" 1129,.ref 687⟩,⟨PyData.keyHash P "__doc__",.str "__doc__" 1130,.none⟩] 4,#[]⟩),
 (685,⟨.type "type",none,.cls {name:="Keeper",bases:=[.type "object"],mro:=[.ref 685,.type "object"],ns:=684,qualname:="Keeper",hasDict:=true,slotNames:=[],subclasses:=[],abstract:=false,collection:=none,hasDel:=false},#[none,none,some (.str "Keeper" 1075),some (.str "Keeper" 1083),some (.builtin "object.__new__"),some (.bool true)]⟩),
 (686,⟨.type "getset_descriptor",none,.fields #[.str "__dict__" 1126,.ref 685,.builtin "function.__dict__",.builtin "function.__dict__#set"],#[]⟩),
 (687,⟨.type "getset_descriptor",none,.fields #[.str "__weakref__" 1128,.ref 685,.builtin "ExceptionGroup.__weakref__",.none],#[]⟩),
 (694,fnO (stAt 103) "_law_box" "_law_box" (.none) (.str "law_nz0331_01" 1133) 693),
 (701,fnO (stAt 104) "_law_draw" "_law_draw" (.none) (.str "law_nz0331_01" 1133) 700),
 (708,fnO (stAt 105) "_law_name" "_law_name" (.none) (.str "law_nz0331_01" 1133) 707),
 (713,fnO (stAt 106) "_law_flags" "_law_flags" (.none) (.str "law_nz0331_01" 1133) 712),
 (718,fnO (stAt 107) "_law_uids" "_law_uids" (.none) (.str "law_nz0331_01" 1133) 717),
 (723,fnO (stAt 108) "_law_deed" "_law_deed" (.none) (.str "law_nz0331_01" 1133) 722),
 (730,fnO (stAt 109) "_law_any" "_law_any" (.none) (.str "law_nz0331_01" 1133) 729),
 (737,fnO (stAt 110) "_law_heard" "_law_heard" (.none) (.str "law_nz0331_01" 1133) 736),
 (744,fnO (stAt 111) "law" "law" (.none) (.str "law_nz0331_01" 1133) 743),
 (743,⟨.type "code",none,.fields #[.str "law" 1193,.str "law" 1194,.str "/claim/cut.py" 1195,.int 675 0,.int 1 0,.int 0 0,.int 0 0,.int 3 0,.ref 738,.bool true,.int 181 0,.ref 739,.none,.ref 740,.ref 741,.ref 742,.int 1209 0,.int 675 0,.str "/claim/cut.py" 1210],#[]⟩)]
noncomputable def codeT:List (Addr × Str):=[(28,Str.ofString "PostError.__init__"),(35,Str.ofString "PostError.told"),(84,Str.ofString "system_flags"),(91,Str.ofString "is_keyword"),(98,Str.ofString "flag_name"),(105,Str.ofString "flag_tuple"),(119,Str.ofString "Letter.__init__"),(126,Str.ofString "Letter.has"),(133,Str.ofString "Letter.told"),(154,Str.ofString "Box.__init__"),(161,Str.ofString "Box.letter"),(166,Str.ofString "Box.uids"),(171,Str.ofString "Box.told"),(183,Str.ofString "remade"),(190,Str.ofString "place_of"),(197,Str.ofString "raised"),(204,Str.ofString "add_letter"),(211,Str.ofString "set_flags"),(216,Str.ofString "flags_after"),(221,Str.ofString "expunge"),(226,Str.ofString "copy_letters"),(231,Str.ofString "move_letters"),(236,Str.ofString "is_sound"),(243,Str.ofString "is_refused"),(249,Str.ofString "store_flags"),(256,Str.ofString "distinct"),(261,Str.ofString "forget_gone"),(268,Str.ofString "count_octets"),(275,Str.ofString "read_count"),(282,Str.ofString "folded_number"),(289,Str.ofString "plain_number"),(296,Str.ofString "text_codes"),(301,Str.ofString "value_octets"),(308,Str.ofString "read_text"),(315,Str.ofString "read_some"),(322,Str.ofString "read_value"),(329,Str.ofString "is_row"),(336,Str.ofString "row_octets"),(343,Str.ofString "read_row"),(350,Str.ofString "adler"),(357,Str.ofString "sum_octets"),(364,Str.ofString "framed"),(371,Str.ofString "row_at"),(376,Str.ofString "upper_text"),(383,Str.ofString "is_half"),(390,Str.ofString "first_part"),(397,Str.ofString "normal_name"),(404,Str.ofString "is_barred_code"),(411,Str.ofString "check_name"),(418,Str.ofString "is_below"),(432,Str.ofString "Store.__init__"),(439,Str.ofString "Store.has"),(446,Str.ofString "Store.box"),(453,Str.ofString "Store.names"),(458,Str.ofString "Store.told"),(472,Str.ofString "is_number"),(477,Str.ofString "are_texts"),(482,Str.ofString "are_numbers"),(489,Str.ofString "fits_shape"),(496,Str.ofString "check_row"),(503,Str.ofString "settled_name"),(510,Str.ofString "need_modseqs"),(517,Str.ofString "need_room"),(524,Str.ofString "need_new"),(531,Str.ofString "need_validity"),(536,Str.ofString "need_uids"),(543,Str.ofString "create_box"),(550,Str.ofString "delete_box"),(557,Str.ofString "renamed_pairs"),(562,Str.ofString "rename_box"),(569,Str.ofString "rename_inbox"),(576,Str.ofString "append_letter"),(583,Str.ofString "flag_letter"),(590,Str.ofString "store_letters"),(597,Str.ofString "expunge_letters"),(602,Str.ofString "copy_or_move"),(609,Str.ofString "subscribe_name"),(614,Str.ofString "unsubscribe_name"),(621,Str.ofString "is_letter_told"),(626,Str.ofString "is_box_told"),(633,Str.ofString "need_sound"),(638,Str.ofString "restore"),(645,Str.ofString "apply"),(660,Str.ofString "Keeper.__init__"),(667,Str.ofString "Keeper.replay"),(674,Str.ofString "Keeper.do"),(681,Str.ofString "Keeper.told"),(693,Str.ofString "_law_box"),(700,Str.ofString "_law_draw"),(707,Str.ofString "_law_name"),(712,Str.ofString "_law_flags"),(717,Str.ofString "_law_uids"),(722,Str.ofString "_law_deed"),(729,Str.ofString "_law_any"),(736,Str.ofString "_law_heard"),(743,Str.ofString "law")]
noncomputable def globV:List (Str × Value):=[(Str.ofString "PostError",Value.ref 39),(Str.ofString "NameFault",Value.ref 52),(Str.ofString "LogFault",Value.ref 64),(Str.ofString "StoreFault",Value.ref 76),(Str.ofString "SYSTEM",Value.str "\\Seen \\Answered \\Flagged \\Deleted \\Draft" 279),(Str.ofString "NO_KEYWORD",Value.str "(){ %*\"\\]" 281),(Str.ofString "MOST_KEYWORD",Value.int 60 283),(Str.ofString "system_flags",Value.ref 85),(Str.ofString "is_keyword",Value.ref 92),(Str.ofString "flag_name",Value.ref 99),(Str.ofString "flag_tuple",Value.ref 106),(Str.ofString "Letter",Value.ref 137),(Str.ofString "Box",Value.ref 175),(Str.ofString "remade",Value.ref 184),(Str.ofString "place_of",Value.ref 191),(Str.ofString "raised",Value.ref 198),(Str.ofString "add_letter",Value.ref 205),(Str.ofString "set_flags",Value.ref 212),(Str.ofString "flags_after",Value.ref 217),(Str.ofString "expunge",Value.ref 222),(Str.ofString "copy_letters",Value.ref 227),(Str.ofString "move_letters",Value.ref 232),(Str.ofString "is_sound",Value.ref 237),(Str.ofString "is_refused",Value.ref 244),(Str.ofString "store_flags",Value.ref 250),(Str.ofString "distinct",Value.ref 257),(Str.ofString "forget_gone",Value.ref 262),(Str.ofString "MOST_DEPTH",Value.int 20 537),(Str.ofString "MODULUS",Value.int 65521 539),(Str.ofString "SUM_WIDTH",Value.int 4 541),(Str.ofString "LAST_SIGN",Value.int 1114111 543),(Str.ofString "NUMBER",Value.int 105 545),(Str.ofString "TEXT",Value.int 116 547),(Str.ofString "OCTETS",Value.int 111 549),(Str.ofString "ROW",Value.int 114 551),(Str.ofString "count_octets",Value.ref 269),(Str.ofString "read_count",Value.ref 276),(Str.ofString "folded_number",Value.ref 283),(Str.ofString "plain_number",Value.ref 290),(Str.ofString "text_codes",Value.ref 297),(Str.ofString "value_octets",Value.ref 302),(Str.ofString "read_text",Value.ref 309),(Str.ofString "read_some",Value.ref 316),(Str.ofString "read_value",Value.ref 323),(Str.ofString "is_row",Value.ref 330),(Str.ofString "row_octets",Value.ref 337),(Str.ofString "read_row",Value.ref 344),(Str.ofString "adler",Value.ref 351),(Str.ofString "sum_octets",Value.ref 358),(Str.ofString "framed",Value.ref 365),(Str.ofString "row_at",Value.ref 372),(Str.ofString "upper_text",Value.ref 377),(Str.ofString "DELIMITER",Value.str "/" 712),(Str.ofString "INBOX_names",Value.str "INBOX" 714),(Str.ofString "WILD_SIGNS",Value.str "%*" 716),(Str.ofString "is_half",Value.ref 384),(Str.ofString "first_part",Value.ref 391),(Str.ofString "normal_name",Value.ref 398),(Str.ofString "is_barred_code",Value.ref 405),(Str.ofString "check_name",Value.ref 412),(Str.ofString "is_below",Value.ref 419),(Str.ofString "INBOX_store",Value.str "INBOX" 769),(Str.ofString "MOST",Value.int 4294967295 771),(Str.ofString "MOST_MODSEQ",Value.int 9223372036854775807 773),(Str.ofString "SHAPES",Value.str "create:tn delete:t rename:tt append:tfno flags:tnf store:tutfn expunge:tu copy:tut move:tut subscribe:t unsubscribe:t forget:tn snapshot:nfr" 775),(Str.ofString "Store",Value.ref 462),(Str.ofString "is_number",Value.ref 473),(Str.ofString "are_texts",Value.ref 478),(Str.ofString "are_numbers",Value.ref 483),(Str.ofString "fits_shape",Value.ref 490),(Str.ofString "check_row",Value.ref 497),(Str.ofString "settled_name",Value.ref 504),(Str.ofString "need_modseqs",Value.ref 511),(Str.ofString "need_room",Value.ref 518),(Str.ofString "need_new",Value.ref 525),(Str.ofString "need_validity",Value.ref 532),(Str.ofString "need_uids",Value.ref 537),(Str.ofString "create_box",Value.ref 544),(Str.ofString "delete_box",Value.ref 551),(Str.ofString "renamed_pairs",Value.ref 558),(Str.ofString "rename_box",Value.ref 563),(Str.ofString "rename_inbox",Value.ref 570),(Str.ofString "append_letter",Value.ref 577),(Str.ofString "flag_letter",Value.ref 584),(Str.ofString "store_letters",Value.ref 591),(Str.ofString "expunge_letters",Value.ref 598),(Str.ofString "copy_or_move",Value.ref 603),(Str.ofString "subscribe_name",Value.ref 610),(Str.ofString "unsubscribe_name",Value.ref 615),(Str.ofString "is_letter_told",Value.ref 622),(Str.ofString "is_box_told",Value.ref 627),(Str.ofString "need_sound",Value.ref 634),(Str.ofString "restore",Value.ref 639),(Str.ofString "apply",Value.ref 646),(Str.ofString "Keeper",Value.ref 685),(Str.ofString "_law_box",Value.ref 694),(Str.ofString "_law_draw",Value.ref 701),(Str.ofString "_law_name",Value.ref 708),(Str.ofString "_law_flags",Value.ref 713),(Str.ofString "_law_uids",Value.ref 718),(Str.ofString "_law_deed",Value.ref 723),(Str.ofString "_law_any",Value.ref 730),(Str.ofString "_law_heard",Value.ref 737),(Str.ofString "law",Value.ref 744)]
noncomputable def bltN:List Str:=["len","int","abs","ord","chr","min","range","bytes","bytearray","tuple","sorted","list","isinstance","all","zip","Exception","bool","str"]
noncomputable def Yf(s:Shared):=(kAddrs.map s.heap.get?,codeT.map (λp=>qF7 s.heap p.1),globV.map (λp=>s.heap.nsMap mainGlobals p.1),bltN.map (λx=>s.heap.nsMap mainGlobals x),s.heap.get? 739)
noncomputable def Ya(w:World):List (Option Obj) × List (Option Str) × List (Option Value) × List (Option Value) × Option Obj:=((KF w.params).map (λp=>some p.2),codeT.map (λp=>some p.2),globV.map (λp=>some p.2),bltN.map (λ_=>none),some ⟨.none,none,.fields #[],#[]⟩)
def BM(g:Heap):Prop:=∃mg bm ob,g.Ns mainGlobals mg∧mg "__builtins__"=some (.ref bm)∧bm≠builtinsNs∧g.get? bm=some ob∧ob.cls= .type "module"∧ob.dict=some builtinsNs∧ob.data= .plain
structure Wd(w:World)(g:Heap):Prop where
 K:(KF w.params).In g
 code:∀p∈codeT,g.CodeRec (.ref p.1) p.2
 ns:∃mg mb,g.Ns mainGlobals mg∧g.Ns builtinsNs mb∧(∀p∈globV,mg p.1=some p.2)∧(∀x∈bltN,mg x=none)∧∀x:Str,x≠"__name__"→mb x=bootBuiltins x
 lim:g.NoLimit
 bmain:BM g
theorem Wd.mono{w:World}{g g':Heap}(x:Wd w g)(k:Le g g'):Wd w g' where
 K:=x.K.keeps k
 code:=λp hp=>(x.code p hp).keeps k
 ns:=x2_3 x.ns λmg mb a b r=>(y23 mg mb (a.keeps k) (b.keeps k) r)
 lim:=x.lim.keeps k
 bmain:=x3_5 x.bmain λmg bm ob a b c d r=>(y35 mg bm ob (a.keeps k) b c (k _ _ d) r)
theorem qC3{α β:Type}{f g:α→β}{l:List α}(e:l.map f=l.map g)(x:α)(hx:x∈l):f x=g x:=List.map_eq_map_iff.mp e x hx
theorem qEB{h:Heap}{c:Addr}{q:Str}(e:qF7 h c=some q):h.CodeRec (.ref c) q:=by
 obtain⟨o,ho,e⟩:=Option.bind_eq_some_iff.mp e
 cases o with|mk cls dict data slots=>
 cases data with
 |fields vs=>
  obtain⟨v,hv,e⟩:=Option.bind_eq_some_iff.mp e
  cases v with
  |str q' t'=>rw[←Option.some.inj e];exact(y44 c _ vs t' rfl ho rfl (by rw[←Array.getElem?_toList,hv]))
  |_=>cases e
 |_=>cases e
theorem qIn(P:Params):kAddrs=(KF P).map (·.1):=by kernel_rfl
noncomputable def qv:Program:= {pw with main:= {pw.main with body:=pw.main.body.drop 111}}
noncomputable def qHC:List Str:=pw.boundNames.filter λn=>n !=("law":Str) && n !=("__name__":Str)
theorem abs0:∀w:World,boot_heap w.params=absHeap (T0 w.params) 11 {}:=λw=>by kernel_rfl
theorem size0:∀w:World,((boot_heap w.params).isNs mainGlobals && (Array.mk ([]:List GenState)).size==0,(boot_heap w.params).objs.size,(boot_heap w.params).nsMap mainGlobals "__annotations__")=(true,11,some (.ref 6)):=λw=>by kernel_rfl
theorem open0:∀w:World,(fencedOpening treeTable pw w 6000).map (λs=>(s.heap,s.gens,s.drawn,s.toks))=some (boot_heap w.params,Array.mk [],boot_drawn,boot_toks):=
 boot_open (by kernel_rfl) (by kernel_rfl) (λs=>by kernel_rfl)
theorem run0:∀(w:World) (os:OsState),(goQ pw w 11 (some (.ref 6)) 5000 ⟨T0 w.params,11,{},Array.mk [],boot_drawn,boot_toks,os⟩ (topStub pw)).map
  (λs=>qIk qv qHC (importedModules pw.main.body) (λ_=>true) (boot_heap w.params) pw Yf s.abs)=some (true,openGood qv qHC,Ya w):=λw os=>by kernel_rfl
theorem left0:LeftO pw qv qHC (λ_=>true) Yf Ya 6000:=qGa open0 abs0 size0 (by decide+kernel) run0
open PyProof.Rows.LCg
noncomputable abbrev Pv:=List (Addr × Obj)
noncomputable abbrev Ro:=List (Str × D)
structure Cx where
 w:World
 A:Around
 fr:List Env
 env:Env
 top:Bool
 bare:Bool
 lv:Nat
 os:OsState
 kp:Option Addr:=none
noncomputable def qAj:Str:="$"
noncomputable def Cx.cellAt(c:Cx)(x:Str):Option Addr:=(c.env.cells.lookup x).or (if x=qAj then c.kp else none)
theorem Cx.cellAt_of{c:Cx}{x:Str}{a:Addr}(e:c.env.cells.lookup x=some a):c.cellAt x=some a:=by unfold Cx.cellAt;rw[e];rfl
theorem Cx.cellAt_ne{c:Cx}{x:Str}{a:Addr}(n:x≠qAj)(e:c.cellAt x=some a):c.env.cells.lookup x=some a:=by
 unfold Cx.cellAt at e;rw[if_neg n]at e
 cases q:c.env.cells.lookup x with
 |none=>rw[q]at e;cases e
 |some b=>rw[q]at e;exact e
theorem Cx.cellAt_none{c:Cx}{x:Str}(n:c.kp=none):c.cellAt x=c.env.cells.lookup x:=by
 unfold Cx.cellAt;rw[n]
 cases c.env.cells.lookup x <;> simp
variable {w:World}{os:OsState}{lv:Nat}{c:Cx}{A:Around}{E:Value→Shared→Prop}{X:Addr→Sg→Prop}{Rt:D→Sg→Prop}{R own:Pv}{L M cl:List (Str × Addr)}{F σ:Sg}{ρ ρ':Ro}{g:Heap}{τ:Sg}{s s':Shared}{h h':Heap}{a:Addr}{o:Obj}{b:Array UInt8}{ab:Addr}{x:Str}{p pos:Pos}{fs:List Str}{us:List Int}{k n:Nat}{as:List D}{d:D}{ds:List D}{v:Value}{vs:List Value}{e elt:Expr}{es ifs:List Expr}{N:Ro→Sg→Prop}{Q:D→Sg→Prop}{Z:Prop}
structure CxOk(c:Cx):Prop where
 hh:c.bare=true→c.A.handled=none
 hf:c.A.frames=some c.fr
 hd:c.A.depth+c.lv < 900
 hu:c.A.units+10 * c.lv+300 < cLine
 hg:c.env.globals=mainGlobals
 hb:c.env.builtins=builtinsNs
 hk:c.env.scope.kind= .function
 h0:c.top=true→∃rest,c.fr=c.env::rest
 gd:c.A.guards=some []
def FrOK(l:List Env)(R:Pv):Prop:=∀e∈l,e.scope.kind≠.module∧∃L o,e.frame=some L∧(L,o)∈R∧qAz o
structure Locs(c:Cx)(g:Heap)(ρ:Ro)(own R:Pv):Prop where
 loc:∃o m,(c.env.locals,o)∈own∧NsObj o m∧∀x d,ρ.lookup x=some d→c.env.kindOf x=some .local→∃v,m x=some v∧DV g d v
 cel:∀x d,ρ.lookup x=some d→c.env.kindOf x=some .local∨((c.env.kindOf x=some .cell∨(c.env.kindOf x=some .free∧(x==("__classdict__":Str))=false)∨(x=qAj∧c.env.cells.lookup x=none))∧∃a o v,c.cellAt x=some a∧(a,o)∈own++R∧o.data= .cell (some v)∧DV g d v)
 mine:c.top=true→∀x,c.env.kindOf x=some .cell→∃a o v,c.env.cells.lookup x=some a∧(a,o)∈own∧o.data= .cell v
 free:∀x y a,(c.env.kindOf x=some .free∨(x=qAj∧c.env.cells.lookup x=none))→c.env.kindOf y=some .cell→c.cellAt x=some a→c.env.cells.lookup y=some a→False
 inj:∀x y a,c.env.kindOf x=some .cell→c.env.kindOf y=some .cell→c.env.cells.lookup x=some a→c.env.cells.lookup y=some a→x=y
structure St(c:Cx)(g:Heap)(R:Pv)(ρ:Ro)(σ:Sg)(own:Pv)(s:Shared):Prop where
 ok:CxOk c
 rel:Rel c.w g (own++R) σ s.heap
 wd:Wd c.w g
 gens:s.gens= #[]
 os:s.os=c.os
 locs:Locs c g ρ own R
 frs:FrOK c.fr (own++R)
def TbAt.Ar(Z:Prop)(g:Heap)(R:Pv)(σ:Sg)(fl:Option Addr)(e:Addr)(h:Heap)(tb:Value):Prop:=∀(T:Addr) (oT:Obj) (ts:Array Value) (etb:tb= .ref T) (ne:T≠e) (gT:g.get? T=none) (fT:Free R σ T) (hT:h.get? T=some oT) (hdT:oT.data= .fields ts) (h3:ts[3]? =some (fl.elim .none λF=>rawInt F)),Z
@[irreducible] def TbAt (g:Heap) (R:Pv) (σ:Sg) (fl:Option Addr) (e:Addr) (h:Heap) (tb:Value):Prop:=∀Z,TbAt.Ar Z g R σ fl e h tb→Z
theorem TbAt.mk{fl:Option Addr}{e:Addr}{tb:Value}:TbAt.Ar (TbAt g R σ fl e h tb) g R σ fl e h tb:=by delta TbAt;exact λT oT ts etb ne gT fT hT hdT h3 _ k=>k T oT ts etb ne gT fT hT hdT h3
theorem TbAt.el{fl:Option Addr}{e:Addr}{tb:Value}(hh:TbAt g R σ fl e h tb):TbAt.Ar Z g R σ fl e h tb→Z:=by delta TbAt at hh;exact hh Z
def FlyTb(g:Heap)(R:Pv)(σ:Sg)(e:Addr)(h:Heap)(tb:Value):Option (Option Addr)→Prop
 |none=>tb= .none
 |some fl=>TbAt g R σ fl e h tb
def FlyAt.Ar(Z:Prop)(g:Heap)(R:Pv)(σ:Sg)(st:Option (Option Addr))(e C:Addr)(h:Heap):Prop:=∀(ge:g.get? e=none) (fe:Free R σ e) (dx:Addr) (es:List DictEntry) (n:Nat) (d1 d2:D) (a0 tb cx:Value) (sl:Array (Option Value)) (he:h.get? e=some ⟨.ref C,some dx,.fields #[a0,tb,cx,.none,.bool false,.none],sl⟩) (hcx:C≠76→cx= .none∧d1.flat=true∧d2.flat=true) (hdx:g.get? dx=some (dictOf es n)) (hfl:Flds g [("what",d1),("at",d2)] es) (q:FlyTb g R σ e h tb st),Z
@[irreducible] def FlyAt (g:Heap) (R:Pv) (σ:Sg) (st:Option (Option Addr)) (e C:Addr) (h:Heap):Prop:=∀Z,FlyAt.Ar Z g R σ st e C h→Z
theorem FlyAt.mk{st:Option (Option Addr)}{e C:Addr}:FlyAt.Ar (FlyAt g R σ st e C h) g R σ st e C h:=by delta FlyAt;exact λge fe dx es n d1 d2 a0 tb cx sl he hcx hdx hfl q _ k=>k ge fe dx es n d1 d2 a0 tb cx sl he hcx hdx hfl q
theorem FlyAt.el{st:Option (Option Addr)}{e C:Addr}(hh:FlyAt g R σ st e C h):FlyAt.Ar Z g R σ st e C h→Z:=by delta FlyAt at hh;exact hh Z
theorem FlyAt.turn{R':Pv}{st:Option (Option Addr)}{e C:Addr}(F:FlyAt g R σ st e C h)(fr:∀b,Free R σ b→Free R' τ b)(k:∀b ob,Free R σ b→h.get? b=some ob→h'.get? b=some ob):FlyAt g R' τ st e C h':=by
 refine F.el λge fe dx es n d1 d2 a0 tb cx sl he hcx hdx hfl q=>?_
 refine(.mk ge (fr _ fe) dx es n d1 d2 a0 tb cx sl (k _ _ fe he) hcx hdx hfl ?_)
 cases st with
 |none=>exact q
 |some fl=>refine q.el λT oT ts etb ne gT fT hT hdT h3=>?_;exact(.mk T oT ts etb ne gT (fr _ fT) (k _ _ fT hT) hdT h3)
theorem FlyAt.cls{st:Option (Option Addr)}{e C:Addr}(F:FlyAt g R σ st e C h):∃o,h.get? e=some o∧o.cls= .ref C:=by
 refine F.el λge fe dx es n d1 d2 a0 tb cx sl he _ _ _ _=>?_;exact(y12 _ he rfl)
theorem FlyAt.sublist{R':Pv}{st:Option (Option Addr)}{e C:Addr}(F:FlyAt g R σ st e C h)(k:R'.Sublist R):FlyAt g R' σ st e C h:=F.turn (λb x=>⟨λhm=>x.1 ((k.map _).subset hm),x.2⟩) λ_ _ _ h=>h
def Fly.Ar(Z:Prop)(g:Heap)(R:Pv)(σ:Sg)(L:Option Addr)(e C:Addr)(h:Heap):Prop:=∀(st:Option (Option Addr)) (F:FlyAt g R σ st e C h) (k:∀F,st=some (some F)→L=some F),Z
@[irreducible] def Fly (g:Heap) (R:Pv) (σ:Sg) (L:Option Addr) (e C:Addr) (h:Heap):Prop:=∀Z,Fly.Ar Z g R σ L e C h→Z
theorem Fly.mk{L:Option Addr}{e C:Addr}:Fly.Ar (Fly g R σ L e C h) g R σ L e C h:=by delta Fly;exact λst F k _ kk=>kk st F k
theorem Fly.el{L:Option Addr}{e C:Addr}(hh:Fly g R σ L e C h):Fly.Ar Z g R σ L e C h→Z:=by delta Fly at hh;exact hh Z
def PE.Ar(Z:Prop)(c:Cx)(g:Heap)(R:Pv)(ρ:Ro)(own:Pv)(Q:D→Sg→Prop)(v:Value)(s':Shared):Prop:=∀(g':Heap) (d:D) (σ':Sg) (l:Le g g') (S:St c g' R ρ σ' own s') (dv:DV g' d v) (q:Q d σ'),Z
@[irreducible] def PE (c:Cx) (g:Heap) (R:Pv) (ρ:Ro) (own:Pv) (Q:D→Sg→Prop) (v:Value) (s':Shared):Prop:=∀Z,PE.Ar Z c g R ρ own Q v s'→Z
theorem PE.mk:PE.Ar (PE c g R ρ own Q v s') c g R ρ own Q v s':=by delta PE;exact λg' d σ' l S dv q _ k=>k g' d σ' l S dv q
theorem PE.el(h:PE c g R ρ own Q v s'):PE.Ar Z c g R ρ own Q v s'→Z:=by delta PE at h;exact h Z
def PX.Ar(Z:Prop)(c:Cx)(g:Heap)(R:Pv)(ρ:Ro)(own:Pv)(X:Addr→Sg→Prop)(ev:Value)(s':Shared):Prop:=∀(e C:Addr) (g':Heap) (σ':Sg) (h:ev= .ref e) (l:Le g g') (S:St c g' R ρ σ' own s') (F:Fly g' (own++R) σ' c.env.frame e C s'.heap) (x:X C σ'),Z
@[irreducible] def PX (c:Cx) (g:Heap) (R:Pv) (ρ:Ro) (own:Pv) (X:Addr→Sg→Prop) (ev:Value) (s':Shared):Prop:=∀Z,PX.Ar Z c g R ρ own X ev s'→Z
theorem PX.mk{ev:Value}:PX.Ar (PX c g R ρ own X ev s') c g R ρ own X ev s':=by delta PX;exact λe C g' σ' h l S F x _ k=>k e C g' σ' h l S F x
theorem PX.el{ev:Value}(hh:PX c g R ρ own X ev s'):PX.Ar Z c g R ρ own X ev s'→Z:=by delta PX at hh;exact hh Z
def PB.Ar(Z:Prop)(c:Cx)(g:Heap)(R:Pv)(ρ:Ro)(own:Pv)(Q:Bool→Sg→Prop)(b:Bool)(s':Shared):Prop:=∀(g':Heap) (σ':Sg) (l:Le g g') (S:St c g' R ρ σ' own s') (q:Q b σ'),Z
@[irreducible] def PB (c:Cx) (g:Heap) (R:Pv) (ρ:Ro) (own:Pv) (Q:Bool→Sg→Prop) (b:Bool) (s':Shared):Prop:=∀Z,PB.Ar Z c g R ρ own Q b s'→Z
theorem PB.mk{Q:Bool→Sg→Prop}{b:Bool}:PB.Ar (PB c g R ρ own Q b s') c g R ρ own Q b s':=by delta PB;exact λg' σ' l S q _ k=>k g' σ' l S q
theorem PB.el{Q:Bool→Sg→Prop}{b:Bool}(h:PB c g R ρ own Q b s'):PB.Ar Z c g R ρ own Q b s'→Z:=by delta PB at h;exact h Z
def PEs.Ar(Z:Prop)(c:Cx)(g:Heap)(R:Pv)(ρ:Ro)(own:Pv)(Q:List D→Sg→Prop)(vs:List Value)(s':Shared):Prop:=∀(g':Heap) (ds:List D) (σ':Sg) (l:Le g g') (S:St c g' R ρ σ' own s') (dvs:DVs g' ds vs) (q:Q ds σ'),Z
@[irreducible] def PEs (c:Cx) (g:Heap) (R:Pv) (ρ:Ro) (own:Pv) (Q:List D→Sg→Prop) (vs:List Value) (s':Shared):Prop:=∀Z,PEs.Ar Z c g R ρ own Q vs s'→Z
theorem PEs.mk{Q:List D→Sg→Prop}:PEs.Ar (PEs c g R ρ own Q vs s') c g R ρ own Q vs s':=by delta PEs;exact λg' ds σ' l S dvs q _ k=>k g' ds σ' l S dvs q
theorem PEs.el{Q:List D→Sg→Prop}(h:PEs c g R ρ own Q vs s'):PEs.Ar Z c g R ρ own Q vs s'→Z:=by delta PEs at h;exact h Z
def PN.Ar(Z:Prop)(c:Cx)(g:Heap)(R:Pv)(N:Ro→Sg→Prop)(s':Shared):Prop:=∀(g':Heap) (own':Pv) (ρ':Ro) (σ':Sg) (l:Le g g') (S:St c g' R ρ' σ' own' s') (n:N ρ' σ'),Z
@[irreducible] def PN (c:Cx) (g:Heap) (R:Pv) (N:Ro→Sg→Prop) (s':Shared):Prop:=∀Z,PN.Ar Z c g R N s'→Z
theorem PN.mk:PN.Ar (PN c g R N s') c g R N s':=by delta PN;exact λg' own' ρ' σ' l S n _ k=>k g' own' ρ' σ' l S n
theorem PN.el(h:PN c g R N s'):PN.Ar Z c g R N s'→Z:=by delta PN at h;exact h Z
def PR.Ar(Z:Prop)(c:Cx)(g:Heap)(R:Pv)(Rt:D→Sg→Prop)(v:Value)(s':Shared):Prop:=∀(g':Heap) (own':Pv) (ρ':Ro) (σ':Sg) (d:D) (l:Le g g') (S:St c g' R ρ' σ' own' s') (dv:DV g' d v) (q:Rt d σ'),Z
@[irreducible] def PR (c:Cx) (g:Heap) (R:Pv) (Rt:D→Sg→Prop) (v:Value) (s':Shared):Prop:=∀Z,PR.Ar Z c g R Rt v s'→Z
theorem PR.mk:PR.Ar (PR c g R Rt v s') c g R Rt v s':=by delta PR;exact λg' own' ρ' σ' d l S dv q _ k=>k g' own' ρ' σ' d l S dv q
theorem PR.el(h:PR c g R Rt v s'):PR.Ar Z c g R Rt v s'→Z:=by delta PR at h;exact h Z
def PF(c:Cx)(g:Heap)(R:Pv)(N:Ro→Sg→Prop)(Rt:D→Sg→Prop)(fl:Flow)(s':Shared):Prop:=match fl with
 | .next=>PN c g R N s'
 | .ret v=>PR c g R Rt v s'
 |_=>False
def PXs.Ar(Z:Prop)(c:Cx)(g:Heap)(R:Pv)(X:Ro→Addr→Sg→Prop)(ev:Value)(s':Shared):Prop:=∀(own':Pv) (ρ':Ro) (p:PX c g R ρ' own' (X ρ') ev s'),Z
@[irreducible] def PXs (c:Cx) (g:Heap) (R:Pv) (X:Ro→Addr→Sg→Prop) (ev:Value) (s':Shared):Prop:=∀Z,PXs.Ar Z c g R X ev s'→Z
theorem PXs.mk{X:Ro→Addr→Sg→Prop}{ev:Value}:PXs.Ar (PXs c g R X ev s') c g R X ev s':=by delta PXs;exact λown' ρ' p _ k=>k own' ρ' p
theorem PXs.el{X:Ro→Addr→Sg→Prop}{ev:Value}(h:PXs c g R X ev s'):PXs.Ar Z c g R X ev s'→Z:=by delta PXs at h;exact h Z
section
end
def WE.Ar(c:Cx)(e:Expr)(ρ:Ro)(σ:Sg)(Q:D→Sg→Prop)(X:Addr→Sg→Prop):Prop:=∀g R own s,St c g R ρ σ own s→wpAny (model pw c.w) c.A (eval e c.env) (PE c g R ρ own Q) (PX c g R ρ own X) s
@[irreducible] def WE (c:Cx) (e:Expr) (ρ:Ro) (σ:Sg) (Q:D→Sg→Prop) (X:Addr→Sg→Prop):Prop:=WE.Ar c e ρ σ Q X
theorem WE.mk(h:WE.Ar c e ρ σ Q X):WE c e ρ σ Q X:=by delta WE;exact h
theorem WE.go(h:WE c e ρ σ Q X):WE.Ar c e ρ σ Q X:=by delta WE at h;exact h
def WB.Ar(c:Cx)(e:Expr)(ρ:Ro)(σ:Sg)(Q:Bool→Sg→Prop)(X:Addr→Sg→Prop):Prop:=∀g R own s,St c g R ρ σ own s→wpAny (model pw c.w) c.A (isTrue e c.env (eval e c.env)) (PB c g R ρ own Q) (PX c g R ρ own X) s
@[irreducible] def WB (c:Cx) (e:Expr) (ρ:Ro) (σ:Sg) (Q:Bool→Sg→Prop) (X:Addr→Sg→Prop):Prop:=WB.Ar c e ρ σ Q X
theorem WB.mk{Q:Bool→Sg→Prop}(h:WB.Ar c e ρ σ Q X):WB c e ρ σ Q X:=by delta WB;exact h
theorem WB.go{Q:Bool→Sg→Prop}(h:WB c e ρ σ Q X):WB.Ar c e ρ σ Q X:=by delta WB at h;exact h
def WEs.Ar(c:Cx)(pos:Pos)(es:List Expr)(ρ:Ro)(σ:Sg)(Q:List D→Sg→Prop)(X:Addr→Sg→Prop):Prop:=∀g R own s,St c g R ρ σ own s→wpAny (model pw c.w) c.A (spliced (backTo pos (starEach es c.env))) (PEs c g R ρ own Q) (PX c g R ρ own X) s
@[irreducible] def WEs (c:Cx) (pos:Pos) (es:List Expr) (ρ:Ro) (σ:Sg) (Q:List D→Sg→Prop) (X:Addr→Sg→Prop):Prop:=WEs.Ar c pos es ρ σ Q X
theorem WEs.mk{Q:List D→Sg→Prop}(h:WEs.Ar c pos es ρ σ Q X):WEs c pos es ρ σ Q X:=by delta WEs;exact h
theorem WEs.go{Q:List D→Sg→Prop}(h:WEs c pos es ρ σ Q X):WEs.Ar c pos es ρ σ Q X:=by delta WEs at h;exact h
def ST.Ar(c:Cx)(st:Stmt)(ρ:Ro)(σ:Sg)(N:Ro→Sg→Prop)(Rt:D→Sg→Prop)(X:Ro→Addr→Sg→Prop):Prop:=∀g R own s,St c g R ρ σ own s→wpAny (model pw c.w) c.A (exec st c.env) (PF c g R N Rt) (PXs c g R X) s
@[irreducible] def ST (c:Cx) (st:Stmt) (ρ:Ro) (σ:Sg) (N:Ro→Sg→Prop) (Rt:D→Sg→Prop) (X:Ro→Addr→Sg→Prop):Prop:=ST.Ar c st ρ σ N Rt X
theorem ST.mk{st:Stmt}{X:Ro→Addr→Sg→Prop}(h:ST.Ar c st ρ σ N Rt X):ST c st ρ σ N Rt X:=by delta ST;exact h
theorem ST.go{st:Stmt}{X:Ro→Addr→Sg→Prop}(h:ST c st ρ σ N Rt X):ST.Ar c st ρ σ N Rt X:=by delta ST at h;exact h
def STs.Ar(c:Cx)(b:List Stmt)(ρ:Ro)(σ:Sg)(N:Ro→Sg→Prop)(Rt:D→Sg→Prop)(X:Ro→Addr→Sg→Prop):Prop:=∀g R own s,St c g R ρ σ own s→wpAny (model pw c.w) c.A (execs b c.env) (PF c g R N Rt) (PXs c g R X) s
@[irreducible] def STs (c:Cx) (b:List Stmt) (ρ:Ro) (σ:Sg) (N:Ro→Sg→Prop) (Rt:D→Sg→Prop) (X:Ro→Addr→Sg→Prop):Prop:=STs.Ar c b ρ σ N Rt X
theorem STs.mk{b:List Stmt}{X:Ro→Addr→Sg→Prop}(h:STs.Ar c b ρ σ N Rt X):STs c b ρ σ N Rt X:=by delta STs;exact h
theorem STs.go{b:List Stmt}{X:Ro→Addr→Sg→Prop}(h:STs c b ρ σ N Rt X):STs.Ar c b ρ σ N Rt X:=by delta STs at h;exact h
def O1.Ar(c:Cx)(f:Value→Sem Value)(a:D)(ρ:Ro)(σ:Sg)(Q:D→Sg→Prop)(X:Addr→Sg→Prop):Prop:=∀g R own s va,St c g R ρ σ own s→DV g a va→wpAny (model pw c.w) c.A (f va) (PE c g R ρ own Q) (PX c g R ρ own X) s
@[irreducible] def O1 (c:Cx) (f:Value→Sem Value) (a:D) (ρ:Ro) (σ:Sg) (Q:D→Sg→Prop) (X:Addr→Sg→Prop):Prop:=O1.Ar c f a ρ σ Q X
theorem O1.mk{f:Value→Sem Value}{a:D}(h:O1.Ar c f a ρ σ Q X):O1 c f a ρ σ Q X:=by delta O1;exact h
theorem O1.go{f:Value→Sem Value}{a:D}(h:O1 c f a ρ σ Q X):O1.Ar c f a ρ σ Q X:=by delta O1 at h;exact h
def O2.Ar(c:Cx)(f:Value→Value→Sem Value)(a b:D)(ρ:Ro)(σ:Sg)(Q:D→Sg→Prop)(X:Addr→Sg→Prop):Prop:=∀g R own s va vb,St c g R ρ σ own s→DV g a va→DV g b vb→wpAny (model pw c.w) c.A (f va vb) (PE c g R ρ own Q) (PX c g R ρ own X) s
@[irreducible] def O2 (c:Cx) (f:Value→Value→Sem Value) (a b:D) (ρ:Ro) (σ:Sg) (Q:D→Sg→Prop) (X:Addr→Sg→Prop):Prop:=O2.Ar c f a b ρ σ Q X
theorem O2.mk{f:Value→Value→Sem Value}{a b:D}(h:O2.Ar c f a b ρ σ Q X):O2 c f a b ρ σ Q X:=by delta O2;exact h
theorem O2.go{f:Value→Value→Sem Value}{a b:D}(h:O2 c f a b ρ σ Q X):O2.Ar c f a b ρ σ Q X:=by delta O2 at h;exact h
def OT.Ar(c:Cx)(a:D)(ρ:Ro)(σ:Sg)(Q:Bool→Sg→Prop)(X:Addr→Sg→Prop):Prop:=∀g R own s va,St c g R ρ σ own s→DV g a va→wpAny (model pw c.w) c.A (truthy va) (PB c g R ρ own Q) (PX c g R ρ own X) s
@[irreducible] def OT (c:Cx) (a:D) (ρ:Ro) (σ:Sg) (Q:Bool→Sg→Prop) (X:Addr→Sg→Prop):Prop:=OT.Ar c a ρ σ Q X
theorem OT.mk{a:D}{Q:Bool→Sg→Prop}(h:OT.Ar c a ρ σ Q X):OT c a ρ σ Q X:=by delta OT;exact h
theorem OT.go{a:D}{Q:Bool→Sg→Prop}(h:OT c a ρ σ Q X):OT.Ar c a ρ σ Q X:=by delta OT at h;exact h
def OC.Ar(c:Cx)(f:D)(as:List D)(ρ:Ro)(σ:Sg)(Q:D→Sg→Prop)(X:Addr→Sg→Prop):Prop:=∀g R own s vf vs,St c g R ρ σ own s→DV g f vf→DVs g as vs→wpAny (model pw c.w) c.A (call vf vs) (PE c g R ρ own Q) (PX c g R ρ own X) s
@[irreducible] def OC (c:Cx) (f:D) (as:List D) (ρ:Ro) (σ:Sg) (Q:D→Sg→Prop) (X:Addr→Sg→Prop):Prop:=OC.Ar c f as ρ σ Q X
theorem OC.mk{f:D}(h:OC.Ar c f as ρ σ Q X):OC c f as ρ σ Q X:=by delta OC;exact h
theorem OC.go{f:D}(h:OC c f as ρ σ Q X):OC.Ar c f as ρ σ Q X:=by delta OC at h;exact h
noncomputable def rset:Ro→Str→D→Ro
 | [],x,d=>[(x,d)]
 |(y,e)::r,x,d=>if y==x then(x,d)::r else(y,e)::rset r x d
section
variable(c:Cx)(X:Addr→Sg→Prop)(Rt:D→Sg→Prop)(Y:Ro→Addr→Sg→Prop)(ρ:Ro)(N:Ro→Sg→Prop)(f:Value→Value→Sem Value)(u:Value→Sem Value)(p:Pos)(d d1:D)(ds:List D)(x:Str)(e r a b:Expr)(es:List Expr)(as bs:List Stmt)(Q:D→Sg→Prop)(B:Bool→Sg→Prop)(L:List D→Sg→Prop)
abbrev kO1:D→Sg→Prop:=λd τ=>O1 c u d ρ τ Q X
abbrev kO2:D→Sg→Prop:=λd1 τ=>O2 c f d d1 ρ τ Q X
abbrev kE2:D→Sg→Prop:=λd τ=>WE c r ρ τ (kO2 c X ρ f d Q) X
abbrev kT:D→Sg→Prop:=λd τ=>OT c d ρ τ B X
abbrev kIfE:Bool→Sg→Prop:=λv τ=>if v then WE c a ρ τ Q X else WE c b ρ τ Q X
abbrev kAndB:Bool→Sg→Prop:=λv τ=>if v then WE c (.BoolOp .And es p) ρ τ Q X else Q d τ
abbrev kAnd:D→Sg→Prop:=λd τ=>OT c d ρ τ (kAndB c X ρ p d es Q) X
abbrev kOrB:Bool→Sg→Prop:=λv τ=>if v then Q d τ else WE c (.BoolOp .Or es p) ρ τ Q X
abbrev kOr:D→Sg→Prop:=λd τ=>OT c d ρ τ (kOrB c X ρ p d es Q) X
abbrev kCons:List D→Sg→Prop:=λds τ=>L (d::ds) τ
abbrev kArg:D→Sg→Prop:=λd τ=>WEs c p es ρ τ (kCons d L) X
abbrev kOC:List D→Sg→Prop:=λds τ=>OC c d ds ρ τ Q X
abbrev kOCm:List D→Sg→Prop:=λes τ=>OC c d (ds++es) ρ τ Q X
abbrev kNot:Bool→Sg→Prop:=λv τ=>B (!v) τ
abbrev kNotV:Bool→Sg→Prop:=λv τ=>Q (.bool (!v)) τ
abbrev kSeq:Ro→Sg→Prop:=λρ τ=>STs c bs ρ τ N Rt Y
abbrev kIf:Bool→Sg→Prop:=λv τ=>if v then STs c as ρ τ N Rt Y else STs c bs ρ τ N Rt Y
abbrev kSet:D→Sg→Prop:=λd τ=>N (rset ρ x d) τ
abbrev kDrop:D→Sg→Prop:=λ_ τ=>N ρ τ
end
section
variable {a b:Expr}{as bs:List Stmt}{Y:Ro→Addr→Sg→Prop}{v:Bool}
theorem kAndB_f(e:false=v)(h:Q d σ):kAndB c X ρ p d es Q v σ:=by subst e;exact h
theorem kIf_f(e:false=v)(h:STs c bs ρ σ N Rt Y):kIf c Rt Y ρ N as bs v σ:=by subst e;exact h
end
theorem qDq{A K:Prop}{p1:Addr→Prop}{p2 q2:Addr→Obj→Prop}{p3:Obj→Value→Prop}{p4 q4:Value→Prop}(h:A∨(K∧∃a o v,p1 a∧p2 a o∧p3 o v∧p4 v))(k2:K→∀a o v,p1 a→p3 o v→p2 a o→q2 a o)(k4:∀v,p4 v→q4 v):A∨(K∧∃a o v,p1 a∧q2 a o∧p3 o v∧q4 v):=
 h.imp id λz=>⟨z.1,x3_4 z.2 λa o v e1 e2 e3 e4=>y34 a o v e1 (k2 z.1 a o v e1 e3 e2) e3 (k4 v e4)⟩
theorem FrOK.map{l:List Env}{R':Pv}(h:FrOK l R)(mv:∀p:Addr × Obj,qAz p.2→p∈R→p∈R'):FrOK l R':=λe he=>⟨(h e he).1,x2_3 (h e he).2 λL o a b c=>y23 L o a (mv (L,o) c b) c⟩
section
variable {g':Heap}
theorem PE.le(k:Le g g')(p:PE c g' R ρ own Q v s'):PE c g R ρ own Q v s':=p.el λg2 d σ' l S dv q=>(.mk g2 d σ' (k.trans l) S dv q)
theorem PX.le(k:Le g g')(p:PX c g' R ρ own X v s'):PX c g R ρ own X v s':=p.el λe C g2 σ' h l S F x=>(.mk e C g2 σ' h (k.trans l) S F x)
theorem PB.le(k:Le g g'){Q:Bool→Sg→Prop}{b:Bool}(p:PB c g' R ρ own Q b s'):PB c g R ρ own Q b s':=p.el λg2 σ' l S q=>(.mk g2 σ' (k.trans l) S q)
theorem PF.le(k:Le g g'){fl:Flow}(p:PF c g' R N Rt fl s'):PF c g R N Rt fl s':=by
 cases fl with
 |next=>exact PN.el p λg2 o r σ' l S n=>(.mk g2 o r σ' (k.trans l) S n)
 |ret=>exact PR.el p λg2 o r σ' d l S dv q=>(.mk g2 o r σ' d (k.trans l) S dv q)
 |brk=>exact p
 |cont=>exact p
theorem PXs.le(k:Le g g'){X:Ro→Addr→Sg→Prop}(p:PXs c g' R X v s'):PXs c g R X v s':=p.el λo r p=>(.mk o r (p.le k))
theorem PX.no{P:Prop}(p:PX c g R ρ own (λ_ _=>False) v s'):P:=by refine p.el λe C g2 σ' h l S F x=>?_;exact x.elim
theorem PX.toS{X:Ro→Addr→Sg→Prop}(p:PX c g R ρ own (X ρ) v s'):PXs c g R X v s':=(.mk own ρ p)
theorem St.toks(S:St c g R ρ σ own s)(n:Nat):St c g R ρ σ own {s with toks:=n}:=⟨S.ok,S.rel,S.wd,S.gens,S.os,S.locs,S.frs⟩
theorem Locs.mono(k:Le g g')(L:Locs c g ρ own R):Locs c g' ρ own R where
 loc:=x2_3 L.loc λo m a b r=>(y23 o m a b (λx d e l=>x1_2 (r x d e l) λv e' dv=>(y12 v e' (dv.mono k))))
 cel:=λx d e=>qDq (L.cel x d e) (λ_ _ _ _ _ _ e=>e) λ_ dv=>dv.mono k
 mine:=L.mine
 free:=L.free
 inj:=L.inj
def noCD(o:Obj):Prop:=(∀v,o.data≠.cell v)∧¬qAz o
theorem qDX{vs:Array Value}(h:o.data= .fields vs):noCD o:=⟨λv q=>(nomatch h.symm.trans q),λo2'=>x2_1 o2' λes ep q=>(nomatch h.symm.trans q)⟩
theorem St.to{R':Pv}{σ':Sg}(S:St c g R ρ σ own s)(rel:Rel c.w g (own++R') σ' s'.heap)(mv:∀{p:Addr × Obj},p∈own++R→¬noCD p.2→p∈own++R')(hg:autoParam (s'.gens=s.gens) auR)(ho:autoParam (s'.os=s.os) auR):St c g R' ρ σ' own s' where
 ok:=S.ok
 rel:=rel
 wd:=S.wd
 gens:=hg.trans S.gens
 os:=ho.trans S.os
 locs:=⟨S.locs.loc,λx d e=>qDq (S.locs.cel x d e) (λ_ _ _ _ _ e3 e2=>mv e2 λq=>q.1 _ e3) λ_ h=>h,S.locs.mine,S.locs.free,S.locs.inj⟩
 frs:=S.frs.map λ_ r hm=>mv hm λq=>q.2 r
theorem St.ext(S:St c g R ρ σ own s){tk:Nat}(k:Le s.heap h'):∃g',Le g g'∧St c g' R ρ σ own {s with heap:=h',toks:=tk}∧∀b o,h'.get? b=some o→Free (own++R) σ b→g'.get? b=some o:=by
 obtain⟨g',l,r,f⟩:=(S.rel.ext k).grow
 exact(y13 g' l ⟨S.ok,r,S.wd.mono l,S.gens,S.os,S.locs.mono l,S.frs⟩ f)
theorem St.free_new(S:St c g R ρ σ own s){b:Addr}(e:s.heap.get? b=none):Free (own++R) σ b:=(S.rel.taken e).2
theorem St.val(S:St c g R ρ σ own s)(dv:DV g d v)(q:Q d σ):PE c g R ρ own Q v {s with toks:=n}:=(.mk g d σ (Le.refl g) (S.toks n) dv q)
theorem St.val0(S:St c g R ρ σ own s)(dv:DV g d v)(q:Q d σ):PE c g R ρ own Q v s:=(.mk g d σ (Le.refl g) S dv q)
end
section
theorem WE.mono{Q':D→Sg→Prop}(h:WE c e ρ σ Q X)(k:∀d τ,Q d τ→Q' d τ):WE c e ρ σ Q' X:=.mk λg R own s S=>
 wpAny_mono (h.go g R own s S) (λ_ _ o4'=>o4'.el λg' d τ l S' dv q=>(.mk g' d τ l S' dv (k d τ q))) λ_ _ x=>x
theorem WE_none(h:Q .none σ):WE c (.Constant .none k p) ρ σ Q X:=.mk λ_ _ _ _ S=>wpAny_Constant_none (S.val0 .none h)
theorem WE_bool{b:Bool}(h:Q (.bool b) σ):WE c (.Constant (.bool b) k p) ρ σ Q X:=.mk λ_ _ _ _ S=>wpAny_Constant_bool (S.val0 (.bool b) h)
theorem WE_int{i:Int}(h:Q (.int i) σ):WE c (.Constant (.int i) k p) ρ σ Q X:=.mk λ_ _ _ _ S=>wpAny_Constant_int (S.val (.int i _) h)
theorem WE_str(h:Q (.str x) σ):WE c (.Constant (.str x) k p) ρ σ Q X:=.mk λ_ _ _ _ S=>wpAny_Constant_str (S.val (.str x _) h)
end
section
theorem WE.use(h:WE c e ρ σ Q X)(S:St c g R ρ σ own s){P:Value→Shared→Prop}
  (k:∀g' d σ' v s',Le g g'→St c g' R ρ σ' own s'→DV g' d v→Q d σ'→P v s')(kx:∀ev s',PX c g R ρ own X ev s'→E ev s'):wpAny (model pw c.w) c.A (eval e c.env) P E s:=
 wpAny_mono (h.go g R own s S) (λv s' p9=>p9.el λg' d σ' l S' dv q=>k g' d σ' v s' l S' dv q) kx
theorem WB.use{Q:Bool→Sg→Prop}(h:WB c e ρ σ Q X)(S:St c g R ρ σ own s){P:Bool→Shared→Prop}
  (k:∀g' d σ' s',Le g g'→St c g' R ρ σ' own s'→Q d σ'→P d s')(kx:∀ev s',PX c g R ρ own X ev s'→E ev s'):wpAny (model pw c.w) c.A (isTrue e c.env (eval e c.env)) P E s:=
 wpAny_mono (h.go g R own s S) (λv s' p9=>p9.el λg' σ' l S' q=>k g' v σ' s' l S' q) kx
theorem WEs.use{Q:List D→Sg→Prop}(h:WEs c pos es ρ σ Q X)(S:St c g R ρ σ own s){P:List Value→Shared→Prop}
  (k:∀g' d σ' v s',Le g g'→St c g' R ρ σ' own s'→DVs g' d v→Q d σ'→P v s')(kx:∀ev s',PX c g R ρ own X ev s'→E ev s'):wpAny (model pw c.w) c.A (spliced (backTo pos (starEach es c.env))) P E s:=
 wpAny_mono (h.go g R own s S) (λv s' p9=>p9.el λg' d σ' l S' dv q=>k g' d σ' v s' l S' dv q) kx
end
noncomputable def qC6(e:Expr):Bool:=Nat.beq e.ctorIdx 22
theorem qAy{env:Env}(h:false=qC6 e):starEach (e::es) env=(false,eval e env)::starEach es env:=by
 cases e <;> first|rfl|exact absurd h Bool.false_ne_true
theorem qCN{env:Env}(h:false=es.any qC6):(backTo p (starEach es env)).any (·.1)=false:=by
 induction es with
 |nil=>rfl
 |cons e r ih=>
  have h:(qC6 e || r.any qC6)=false:=h.symm
  have h:=Bool.or_eq_false_iff.mp h
  rw[qAy h.1.symm]
  exact ih h.2.symm
noncomputable def qDr(fn:Expr)(es:List Expr):Bool:=!(Nat.beq fn.ctorIdx 20) && !(es.any qC6)
theorem qD4{fn:Expr}(h:true=qDr fn es):Nat.beq fn.ctorIdx 20=false∧es.any qC6=false:=by
 have h:=Bool.and_eq_true_iff.mp h.symm
 exact⟨(Bool.not_eq_true' _).mp h.1,(Bool.not_eq_true' _).mp h.2⟩
theorem qBi{fn:Expr}(h:true=qDr fn (e::es)):false=qC6 e∧false=es.any qC6:=by
 have h:(qC6 e || es.any qC6)=false:=(qD4 h).2
 have h:=Bool.or_eq_false_iff.mp h
 exact⟨h.1.symm,h.2.symm⟩
theorem qBj{fn:Expr}{env:Env}(h:true=qDr fn es):eval (.Call fn es [] p) env=(do callWith p (←eval fn env) [] (backTo p (starEach es env)) (backToKw p (keywordEach [] env))):=by
 have h:=(qD4 h).1
 cases fn <;> first|rfl|exact absurd h.symm Bool.false_ne_true
noncomputable def bareE(e:Expr):Bool:=!(Nat.beq e.ctorIdx 0 || Nat.beq e.ctorIdx 3 || Nat.beq e.ctorIdx 5 || Nat.beq e.ctorIdx 15)
theorem qI6{env:Env}{t:Sem Value}(h:true=bareE e):isTrue e env t=(do let v ←t;standAt e.pos;holding [v] (truthy v)):=by
 cases e <;> first|rfl|exact absurd h.symm Bool.false_ne_true
section
theorem WEs_nil{Q:List D→Sg→Prop}(h:Q [] σ):WEs c pos [] ρ σ Q X:=.mk λg _ _ _ S=>args_nil (.mk g [] σ (Le.refl g) S .nil h)
theorem WEs_cons{Q:List D→Sg→Prop}(h:WE c e ρ σ (kArg c X ρ pos es Q) X)(he:autoParam (false=qC6 e) auR):WEs c pos (e::es) ρ σ Q X:=.mk λg R own s S=>
 args_cons (h.use S (λg1 d τ v s1 l S1 dv q=>q.use S1 (λg2 ds υ vs s2 l2 S2 dvs q2=>(.mk g2 (d::ds) υ (l.trans l2) S2 (.cons (dv.mono l2) dvs) q2)) λ_ _ x=>x.le l) λ_ _ x=>x) (qAy he)
theorem WE_BinOp{l r:Expr}{op:Operator}(h:WE c l ρ σ (kE2 c X ρ (binaryOp op) r Q) X):WE c (.BinOp l op r p) ρ σ Q X:=.mk λg R own s S=>
 wpAny_BinOp (h.use S (λg1 a τ va s1 l1 S1 da q=>q.use S1 (λg2 b υ vb s2 l2 S2 db q2=>
  wpAny_mono (q2.go g2 R own s2 va vb S2 (da.mono l2) db) (λ_ _ p=>(p.le l2).le l1) λ_ _ p=>(p.le l2).le l1) λ_ _ x=>x.le l1) λ_ _ x=>x)
theorem qIB{l r:Expr}{op:CmpOp}(h:WE c l ρ σ (kE2 c X ρ (compareOp op) r Q) X)(hm:autoParam (false=behindInMarks op r) auR):
  WE c (.Compare l [op] [r] p) ρ σ Q X:=.mk λg R own s S=>
 wpAny_Compare1 (h.use S (λg1 a τ va s1 l1 S1 da q=>q.use S1 (λg2 b υ vb s2 l2 S2 db q2=>
  wpAny_mono (q2.go g2 R own s2 va vb S2 (da.mono l2) db) (λ_ _ p=>(p.le l2).le l1) λ_ _ p=>(p.le l2).le l1) λ_ _ x=>x.le l1) λ_ _ x=>x) hm.symm
theorem qES{l r:Expr}{op:CmpOp}{Q:Bool→Sg→Prop}(h:WE c l ρ σ (kE2 c X ρ (compareOp op) r (kT c X ρ Q)) X)(hm:autoParam (false=behindInMarks op r) auR):
  WB c (.Compare l [op] [r] p) ρ σ Q X:=.mk λg R own s S=>
 wpAny_isTrue_Compare1 (h.use S (λg1 a τ va s1 l1 S1 da q=>q.use S1 (λg2 b υ vb s2 l2 S2 db q2=>
  wpAny_mono (q2.go g2 R own s2 va vb S2 (da.mono l2) db) (λv s3 p9=>p9.el λg3 d φ l3 S3 dv q3=>
   wpAny_mono (q3.go g3 R own s3 v S3 dv) (λ_ _ p=>((p.le l3).le l2).le l1) λ_ _ p=>((p.le l3).le l2).le l1) λ_ _ p=>(p.le l2).le l1) λ_ _ x=>x.le l1) λ_ _ x=>x) hm.symm
theorem WE_Unary{op:UnaryOp}(h:WE c e ρ σ (kO1 c X ρ (unaryOp op) Q) X):WE c (.UnaryOp op e p) ρ σ Q X:=.mk λg R own s S=>
 wpAny_UnaryOp (h.use S (λg1 a τ va s1 l1 S1 da q=>wpAny_mono (q.go g1 R own s1 va S1 da) (λ_ _ p=>p.le l1) λ_ _ p=>p.le l1) λ_ _ x=>x)
theorem WE_IfExp{t a b:Expr}(h:WB c t ρ σ (kIfE c X ρ a b Q) X):WE c (.IfExp t a b p) ρ σ Q X:=.mk λg R own s S=>
 wpAny_IfExp (h.use S (λg1 x τ s1 l1 S1 q=>by
  cases x
  ·exact wpAny_mono (q.go g1 R own s1 S1) (λ_ _ p=>p.le l1) λ_ _ p=>p.le l1
  ·exact wpAny_mono (q.go g1 R own s1 S1) (λ_ _ p=>p.le l1) λ_ _ p=>p.le l1) λ_ _ x=>x)
theorem qIA{op:BoolOp}(h:WE c e ρ σ Q X):WE c (.BoolOp op [e] p) ρ σ Q X:=.mk λg R own s S=>BoolOp_one (h.go g R own s S)
theorem WE_and{e2:Expr}(h:WE c e ρ σ (kAnd c X ρ p (e2::es) Q) X):WE c (.BoolOp .And (e::e2::es) p) ρ σ Q X:=.mk λg R own s S=>
 BoolOp_and (h.use S (λg1 d τ v s1 l1 S1 dv q=>wpAny_mono (q.go g1 R own s1 v S1 dv) (λb s2 p9=>p9.el λg2 υ l2 S2 q2=>by
  cases b
  ·exact(.mk g2 d υ (l1.trans l2) S2 (dv.mono l2) q2)
  ·exact wpAny_mono (q2.go g2 R own s2 S2) (λ_ _ p=>(p.le l2).le l1) λ_ _ p=>(p.le l2).le l1) λ_ _ p=>p.le l1) λ_ _ x=>x)
theorem WE_or{e2:Expr}(h:WE c e ρ σ (kOr c X ρ p (e2::es) Q) X):WE c (.BoolOp .Or (e::e2::es) p) ρ σ Q X:=.mk λg R own s S=>
 BoolOp_or (h.use S (λg1 d τ v s1 l1 S1 dv q=>wpAny_mono (q.go g1 R own s1 v S1 dv) (λb s2 p9=>p9.el λg2 υ l2 S2 q2=>by
  cases b
  ·exact wpAny_mono (q2.go g2 R own s2 S2) (λ_ _ p=>(p.le l2).le l1) λ_ _ p=>(p.le l2).le l1
  ·exact(.mk g2 d υ (l1.trans l2) S2 (dv.mono l2) q2)) λ_ _ p=>p.le l1) λ_ _ x=>x)
theorem WB_val{Q:Bool→Sg→Prop}(h:WE c e ρ σ (kT c X ρ Q) X)(he:autoParam (true=bareE e) auR):WB c e ρ σ Q X:=.mk λg R own s S=>
 wpAny_isTrue_value (h.use S (λg1 d τ v s1 l1 S1 dv q=>wpAny_mono (q.go g1 R own s1 v S1 dv) (λ_ _ p=>p.le l1) λ_ _ p=>p.le l1) λ_ _ x=>x) (qI6 he)
theorem WB_Not{Q:Bool→Sg→Prop}(h:WB c e ρ σ (kNot Q) X):WB c (.UnaryOp .Not e p) ρ σ Q X:=.mk λg R own s S=>
 wpAny_isTrue_Not (h.use S (λg1 b τ s1 l1 S1 q=>(.mk g1 τ l1 S1 q)) λ_ _ x=>x)
def WA.Ar(c:Cx)(op:BoolOp)(es:List Expr)(ρ:Ro)(σ:Sg)(Q:Bool→Sg→Prop)(X:Addr→Sg→Prop):Prop:=∀g R own s,St c g R ρ σ own s→wpAny (model pw c.w) c.A (allTrue op es c.env) (PB c g R ρ own Q) (PX c g R ρ own X) s
@[irreducible] def WA (c:Cx) (op:BoolOp) (es:List Expr) (ρ:Ro) (σ:Sg) (Q:Bool→Sg→Prop) (X:Addr→Sg→Prop):Prop:=WA.Ar c op es ρ σ Q X
theorem WA.mk{op:BoolOp}{Q:Bool→Sg→Prop}(h:WA.Ar c op es ρ σ Q X):WA c op es ρ σ Q X:=by delta WA;exact h
theorem WA.go{op:BoolOp}{Q:Bool→Sg→Prop}(h:WA c op es ρ σ Q X):WA.Ar c op es ρ σ Q X:=by delta WA at h;exact h
abbrev kWand(c:Cx)(es:List Expr)(ρ:Ro)(B:Bool→Sg→Prop)(X:Addr→Sg→Prop):Bool→Sg→Prop:=λv τ=>if v then WA c .And es ρ τ B X else B false τ
abbrev kWor(c:Cx)(es:List Expr)(ρ:Ro)(B:Bool→Sg→Prop)(X:Addr→Sg→Prop):Bool→Sg→Prop:=λv τ=>if v then B true τ else WA c .Or es ρ τ B X
theorem qJR{op:BoolOp}{Q:Bool→Sg→Prop}(h:WA c op es ρ σ Q X):WB c (.BoolOp op es p) ρ σ Q X:=.mk λg R own s S=>wpAny_isTrue_BoolOp (h.go g R own s S)
theorem qIC{Q:Bool→Sg→Prop}(h:Q true σ):WA c .And [] ρ σ Q X:=.mk λg _ _ _ S=>wpAny_allTrue_And_nil (.mk g σ (Le.refl g) S h)
theorem qJS{Q:Bool→Sg→Prop}(h:Q false σ):WA c .Or [] ρ σ Q X:=.mk λg _ _ _ S=>wpAny_allTrue_Or_nil (.mk g σ (Le.refl g) S h)
theorem WA_and{Q:Bool→Sg→Prop}(h:WB c e ρ σ (kWand c es ρ Q X) X):WA c .And (e::es) ρ σ Q X:=.mk λg R own s S=>
 wpAny_allTrue_And_cons (h.use S (λg1 b τ s1 l1 S1 q=>by
  cases b
  ·exact(.mk g1 τ l1 S1 q)
  ·exact wpAny_mono (q.go g1 R own s1 S1) (λ_ _ p=>p.le l1) λ_ _ p=>p.le l1) λ_ _ x=>x)
theorem WA_or{Q:Bool→Sg→Prop}(h:WB c e ρ σ (kWor c es ρ Q X) X):WA c .Or (e::es) ρ σ Q X:=.mk λg R own s S=>
 wpAny_allTrue_Or_cons (h.use S (λg1 b τ s1 l1 S1 q=>by
  cases b
  ·exact wpAny_mono (q.go g1 R own s1 S1) (λ_ _ p=>p.le l1) λ_ _ p=>p.le l1
  ·exact(.mk g1 τ l1 S1 q)) λ_ _ x=>x)
end
noncomputable def dOf:Value→Option D
 | .none=>some .none
 | .bool b=>some (.bool b)
 | .int i _=>some (.int i)
 | .str x _=>some (.str x)
 | .ref a=>some (.obj a)
 | .builtin i=>some (.blt i)
 | .type n=>some (.typ n)
 | .ellipsis=>none
 | .notImplemented=>none
 | .float _ _=>none
 | .bytes _ _=>none
theorem DV_dOf(e:dOf v=some d):DV g d v:=by
 cases v <;> first| (injection e;done)| (have e:=Option.some.inj e;subst e;constructor)
noncomputable def okN(x:Str):Bool:=!(x==("__debug__":Str)) && !(x==qAj)
theorem qFX(h:true=okN x):(x==("__debug__":Str))=false∧(x==qAj)=false:=by
 have h:=Bool.and_eq_true_iff.mp h.symm
 exact⟨(Bool.not_eq_true' _).mp h.1,(Bool.not_eq_true' _).mp h.2⟩
section
theorem WE_name(e:ρ.lookup x=some d)(h:Q d σ)(hk:autoParam (true=okN x) auR):WE c (.Name x p) ρ σ Q X:=.mk λg R own s S=>by
 have go:∀v,DV g d v→PE c g R ρ own Q v s:=λv dv=>S.val0 dv h
 rcases S.locs.cel x d e with k| ⟨k,a,o,v,e1,e2,e3,dv⟩
 ·obtain⟨o,m,ho,hn,r⟩:=S.locs.loc
  obtain⟨v,e1,dv⟩:=r x d e k
  have hp:=(S.rel.priv _ (List.mem_append_left R ho)).2
  refine wpAny_Name (wpAny_loadName_local S.ok.hk k (m:=m) ?_ e1 (go v dv)) (qFX hk).1
  rcases hp with hp| ⟨_,sl,hp⟩
  ·exact hn.ns hp
  ·obtain⟨es,ep,q1,q2,q3⟩:=hn
   exact(y34 _ es ep hp q1 q2 q3)
 ·have hp:=(S.rel.priv _ e2).2
  have hv:s.heap.IsCell a (some v):=by
   rcases hp with hp| ⟨⟨es,ep,q⟩,_⟩
   ·exact(y12 o hp e3)
   ·rw[e3]at q;cases q
  have e1:=Cx.cellAt_ne (beq_eq_false_iff_ne.mp (qFX hk).2) e1
  rcases k with k| ⟨k,kc⟩|k
  ·exact wpAny_Name (wpAny_loadName_cell S.ok.hk k e1 hv (go v dv)) (qFX hk).1
  ·exact wpAny_Name (wpAny_loadName_free S.ok.hk k e1 hv (go v dv) kc) (qFX hk).1
  ·exact absurd k.1 (beq_eq_false_iff_ne.mp (qFX hk).2)
theorem WE_glob(k:c.env.kindOf x=some .globalImplicit)(e:globV.lookup x=some v)(ed:dOf v=some d)(h:Q d σ)(hd:autoParam (false=(x==("__debug__":Str))) auR):WE c (.Name x p) ρ σ Q X:=.mk λg R own s S=>by
 obtain⟨mg,mb,hg,hb,q1,q2,q3⟩:=S.wd.ns
 refine Name_function_global S.ok.hk k ?_ hd.symm
 refine loadGlobal_global (by rw[S.ok.hg];exact hg.keeps S.rel.keep) (q1 (x,v) (mem_of_lookup e)) (S.val0 (DV_dOf ed) h)
theorem WE_blt(k:c.env.kindOf x=some .globalImplicit)(hm:x∈bltN)(e:bootBuiltins x=some v)(ed:dOf v=some d)(h:Q d σ)(hd:autoParam (false=(x==("__debug__":Str))) auR)(hn:autoParam (false=(x==("__name__":Str))) auR):WE c (.Name x p) ρ σ Q X:=.mk λg R own s S=>by
 obtain⟨mg,mb,hg,hb,q1,q2,q3⟩:=S.wd.ns
 refine Name_function_global S.ok.hk k ?_ hd.symm
 refine loadGlobal_builtin (by rw[S.ok.hg];exact hg.keeps S.rel.keep) (q2 x hm) (by rw[S.ok.hb];exact hb.keeps S.rel.keep) ((q3 x (by rintro rfl;have hn:=hn.symm;simp at hn)).trans e) (S.val0 (DV_dOf ed) h)
end
theorem qC2{l:Pv}(n:(l.map (·.1)).Nodup){o':Obj}(x:(a,o)∈l)(y:(a,o')∈l):o=o':=by
 induction l with
 |nil=>cases x
 |cons p r ih=>
  have n':p.1∉r.map (·.1)∧(r.map (·.1)).Nodup:=List.nodup_cons.mp n
  rcases List.mem_cons.mp x with e1|x1
  ·rcases List.mem_cons.mp y with e2|y1
   ·have:=e1.trans e2.symm
    injection this with _ e
   ·exact absurd (by rw[←e1];exact List.mem_map_of_mem (f:=(·.1)) y1) n'.1
  ·rcases List.mem_cons.mp y with e2|y1
   ·exact absurd (by rw[←e2];exact List.mem_map_of_mem (f:=(·.1)) x1) n'.1
   ·exact ih n'.2 x1 y1
theorem Rel.slots(x:Rel w g R σ h){F:List Addr}{f:Addr→Prop}(hf:∀b,f b→g.get? b=none∧Free R σ b)(hF:∀b∈F,∃o,(b,o)∈R∧qAz o)
  (k:∀b ob,b∉F→¬f b→h.get? b=some ob→h'.get? b=some ob)(ks:∀b o,b∈F→h.get? b=some o→∃sl,h'.get? b=some {o with slots:=sl}):Rel w g R σ h':=by
 refine⟨λb ob q=>k b ob (λhb=>?_) (λz=>by rw[(hf b z).1]at q;cases q) (x.keep b ob q),λp hp=>⟨(x.priv p hp).1,?_⟩,x.nodup,
  λb p q=>(x.rep b p q).heap λc hc ob=>k c ob (λhc'=>?_) λz=>(hf c z).2.2 b p q hc,x.off,x.apart⟩
 ·obtain⟨o,ho,_⟩:=hF b hb
  rw[(x.priv _ ho).1]at q;cases q
 ·by_cases hb:p.1∈F
  ·obtain⟨o,ho,hd⟩:=hF _ hb
   have:=qC2 x.nodup (a:=p.1) (o:=o) (o':=p.2) ho hp
   subst this
   rcases(x.priv p hp).2 with e| ⟨_,sl,e⟩
   ·obtain⟨sl,e'⟩:=ks _ _ hb e
    exact .inr ⟨hd,sl,e'⟩
   ·obtain⟨sl',e'⟩:=ks _ _ hb e
    exact .inr ⟨hd,sl',e'⟩
  ·exact(x.priv p hp).2.le λob=>k _ ob hb λz=>(hf _ z).2.1 (List.mem_map_of_mem hp)
 ·obtain⟨o,ho,_⟩:=hF c hc'
  exact(x.off b p q c hc).2 (List.mem_map_of_mem ho)
theorem FrOK.fun{l:List Env}(x:FrOK l R)(r:Rel w g R σ h):h.FunFrames g l:=by
 induction l with
 |nil=>trivial
 |cons e l ih=>
  obtain⟨k,L,o,hf,hm,es,ep,hd⟩:=x e List.mem_cons_self
  refine(y03 k ⟨L,?_⟩ (ih λe' he=>x e' (List.mem_cons_of_mem _ he)))
  obtain⟨p1,p2⟩:=r.priv _ hm
  rcases p2 with e| ⟨_,sl,e⟩
  ·exact(y14 o hf p1 e (λvs q=>by rw[hd]at q;cases q))
  ·exact(y14 _ hf p1 e (λvs q=>by rw[hd]at q;cases q))
theorem FrOK.mem{l:List Env}(x:FrOK l R){b:Addr}(hb:b∈l.filterMap (·.frame)):∃o,(b,o)∈R∧qAz o:=by
 obtain⟨e,he,hf⟩:=List.mem_filterMap.mp hb
 obtain⟨_,L,o,hf',hm,hd⟩:=x e he
 rw[hf]at hf';injection hf' with hf';subst hf'
 exact(y12 o hm hd)
theorem qAM(h:Heap):h.get? h.objs.size=none:=qAU λo q=>Nat.lt_irrefl _ (Heap.lt_size q)
section
variable {M:Model}{e C:Addr}
theorem qBN{fl:Option Addr}{fr:Option Addr}{Q:Unit→Shared→Prop}(r:Rel w g R σ s.heap)(F:FlyAt g R σ (some fl) e C s.heap)
  (h:∀h',Rel w g R σ h'→FlyAt g R σ (some fr) e C h'→Q () {s with heap:=h'}):wpAny M A (setFlight (.ref e) fr) Q E s:=by
 refine F.el λge fe dx es n d1 d2 a0 tb cx sl he hcx hdx hfl q=>?_
 refine TbAt.el q λT oT ts etb hTe gT fT hT hdT h3=>?_
 subst etb
 refine wpAny_bind (wpAny_field he rfl (x:=.ref T) rfl ?_)
 rw[if_pos (show(Value.ref T !=Value.none)=true from by simp)]
 refine wpAny_setField hT hdT (Array.getElem?_eq_some_iff.mp h3).1 (h _ ?_ ?_)
 ·exact r.aside (f:=λb=>b=T) (λb hb=>by subst hb;exact⟨gT,fT⟩) λb ob hb q=>by rw[Heap.get?_update_other _ _ (Ne.symm hb)];exact q
 ·refine(.mk ge fe dx es n d1 d2 a0 _ cx sl (by rw[Heap.get?_update_other _ _ hTe];exact he) hcx hdx hfl (TbAt.mk T _ _ rfl hTe gT fT (Heap.get?_update_self _ hT (Obj.isFreed_of_fields (Obj.data_mapFields hdT _))) (Obj.data_mapFields hdT _) ?_))
  rw[Array.getElem?_setIfInBounds_self_of_lt (Array.getElem?_eq_some_iff.mp h3).1]
theorem qIp{fl:Option Addr}{Q:Value→Shared→Prop}(F:FlyAt g R σ (some fl) e C s.heap)(h:∀T,Q (.ref T) s):wpAny M A (field (.ref e) 1) Q E s:=by
 refine F.el λge fe dx es n d1 d2 a0 tb cx sl he hcx hdx hfl q=>?_
 refine q.el λT oT ts etb _ _ _ _ _ _=>?_
 subst etb
 exact wpAny_field he rfl (x:=.ref T) rfl (h T)
theorem qFh{env:Env}{outer:List Env}{L:Addr}{head:Value}{hadNext:Bool}{st:Option (Option Addr)}{Q:Unit→Shared→Prop}(r:Rel w g R σ s.heap)(F:FlyAt g R σ st e C s.heap)(fo:FrOK (env::outer) R)
  (hfr:A.frames=some (env::outer))(hf:env.frame=some L)
  (h:∀h',Rel w g R σ h'→FlyAt g R σ (some (some L)) e C h'→Q () {s with heap:=h'}):
  wpAny M A (do let a ←frameOf env;let pl ←entryPlaceOf L hadNext;let b ←EntryCells.newEntry head a .none (rawInt L) .none pl;setField (.ref e) 1 b) Q E s:=by
 obtain⟨ge,fe,dx,es,n,d1,d2,a0,tb,cx,sl,he,hcx,hdx,hfl,rest⟩:=F
 refine wpAny_bind (wpAny_frameOf_fun hfr (fo.fun r) hf λh₁ hs=>?_)
 have hne:e∉(env::outer).filterMap (·.frame):=λq=>by
  obtain⟨o,ho,_⟩:=fo.mem q
  exact fe.1 (List.mem_map_of_mem ho)
 have r₁:Rel w g R σ h₁:=r.slots (F:=(env::outer).filterMap (·.frame)) (f:=λ_=>False) (λ_ z=>z.elim) (λb hb=>fo.mem hb) (λb ob hb _ q=>(hs.2.1 b hb).trans q) λb o _ q=>hs.2.2 b o q
 have he₁:=(hs.2.1 e hne).trans he
 refine wpAny_bind (wpAny_entryPlaceOf λpl hpl=>?_)
 refine wpAny_bind (wpAny_newObj_type ?_ (hpl.sizeOk5 _ _ _ _ _))
 have k₂:Le h₁ (h₁.push {cls:=.type "traceback",dict:=none,data:=.fields ([head,.ref L,.none,rawInt L,.none]++(if pl.isEmpty then List.replicate 6 Value.none else pl)).toArray}):=λb o q=>Heap.get?_push_of_some _ q
 have he₂:=k₂ _ _ he₁
 have hTn:h₁.get? h₁.objs.size=none:=qAM h₁
 obtain⟨tg,tf,ts⟩:=r₁.taken hTn
 have hTe:h₁.objs.size≠e:=Nat.ne_of_gt (Heap.lt_size he₁)
 refine wpAny_setField he₂ rfl (by simp) (h _ ?_ ?_)
 ·exact(r₁.ext k₂).aside (f:=λb=>b=e) (λb hb=>by subst hb;exact⟨ge,fe⟩) λb ob hb q=>by rw[Heap.get?_update_other _ _ (Ne.symm hb)];exact q
 ·refine(.mk ge fe dx es n d1 d2 a0 (.ref h₁.objs.size) cx sl ?_ hcx hdx hfl (TbAt.mk h₁.objs.size {cls:=.type "traceback",dict:=none,data:=.fields ([head,.ref L,.none,rawInt L,.none]++(if pl.isEmpty then List.replicate 6 Value.none else pl)).toArray} _ rfl hTe tg ⟨tf,ts⟩ ?_ rfl (by simp)))
  ·exact Heap.get?_update_self _ he₂ rfl
  ·rw[Heap.get?_update_other _ _ (Ne.symm hTe)];exact Heap.get?_push_size h₁ rfl
theorem qC4{env:Env}{outer:List Env}{L:Addr}{Q:Unit→Shared→Prop}(r:Rel w g R σ s.heap)(F:Fly g R σ (some L) e C s.heap)(fo:FrOK (env::outer) R)(hfr:A.frames=some (env::outer))(hf:env.frame=some L)
  (h:∀h',Rel w g R σ h'→FlyAt g R σ (some (some L)) e C h'→Q () {s with heap:=h'}):wpAny M A (noteFrame (.ref e) env) Q E s:=by
 obtain⟨st,F,hst⟩:=F
 obtain⟨ge,fe,dx,es,n,d1,d2,a0,tb,cx,sl,he,hcx,hdx,hfl,rest⟩:=id F
 unfold noteFrame
 simp only[hf]
 refine wpAny_bind (wpAny_field he rfl (x:=tb) rfl ?_)
 cases st with
 |none=>
  have rest:tb= .none:=rest
  subst rest
  rw[if_neg (by simp)]
  exact qFh r F fo hfr hf h
 |some fl=>
  refine TbAt.el rest λT oT ts etb hTe gT fT hT hdT h3=>?_
  subst etb
  rw[if_pos (show(Value.ref T !=Value.none)=true from by simp)]
  refine wpAny_bind (wpAny_field hT hdT h3 ?_)
  cases fl with
  |none=>
   rw[if_neg (show ¬(((none:Option Addr).elim Value.none (λF=>rawInt F)==rawInt L)=true) from by simp[rawInt])]
   refine wpAny_bind (wpAny_setField hT hdT (Array.getElem?_eq_some_iff.mp h3).1 ?_)
   have r':Rel w g R σ (s.heap.update T (Obj.mapFields (·.setIfInBounds 3 Value.none))):=r.aside (f:=λb=>b=T) (λb hb=>by subst hb;exact⟨gT,fT⟩) λb ob hb q=>by rw[Heap.get?_update_other _ _ (Ne.symm hb)];exact q
   refine qFh (st:=some none) (s:= {s with heap:=s.heap.update T (Obj.mapFields (·.setIfInBounds 3 Value.none))}) r' (.mk ge fe dx es n d1 d2 a0 _ cx sl (by rw[Heap.get?_update_other _ _ hTe];exact he) hcx hdx hfl (TbAt.mk T _ _ rfl hTe gT fT (Heap.get?_update_self _ hT (Obj.isFreed_of_fields (Obj.data_mapFields hdT _))) (Obj.data_mapFields hdT _) ?_)) fo hfr hf h
   rw[Array.getElem?_setIfInBounds_self_of_lt (Array.getElem?_eq_some_iff.mp h3).1];rfl
  |some F'=>
   have:=hst F' rfl
   injection this with this;subst this
   rw[if_pos (by simp[rawInt])]
   exact wpAny_pure (h _ r F)
end
theorem qBF(ρ:Ro)(x:Str)(d:D)(y:Str):(rset ρ x d).lookup y=if y=x then some d else ρ.lookup y:=by
 induction ρ with
 |nil=>
  unfold rset
  by_cases h:y=x
  ·simp[h,List.lookup]
  ·rw[if_neg h]
   show(match y==x with|true=>some d|false=>none)=none
   rw[show(y==x)=false from beq_eq_false_iff_ne.mpr h]
 |cons p r ih=>
  obtain⟨z,e⟩:=p
  unfold rset
  by_cases hz:z=x
  ·subst hz
   rw[if_pos (beq_self_eq_true z)]
   by_cases h:y=z
   ·subst h;simp[List.lookup]
   ·rw[if_neg h,List.lookup_cons,List.lookup_cons,show(y==z)=false from beq_eq_false_iff_ne.mpr h]
  ·rw[if_neg (by simpa using hz),List.lookup_cons,ih,List.lookup_cons]
   by_cases h:y=z
   ·subst h;simp[hz]
   ·rw[show(y==z)=false from beq_eq_false_iff_ne.mpr h]
def RSub(ρ' ρ:Ro):Prop:=∀x d,ρ'.lookup x=some d→ρ.lookup x=some d
def RSubL:Ro→Ro→Prop
 | [],_=>True
 |(x,d)::r,ρ=>ρ.lookup x=some d∧RSubL r ρ
theorem RSub.of(h:RSubL ρ' ρ):RSub ρ' ρ:=by
 induction ρ' with
 |nil=>intro x d e;cases e
 |cons p r ih=>
  cases p with|mk y e=>
  intro x d q
  rw[List.lookup_cons]at q
  by_cases k:x=y
  ·rw[k,beq_self_eq_true]at q
   rw[k,←Option.some.inj q];exact h.1
  ·rw[show(x==y)=false from beq_eq_false_iff_ne.mpr k]at q
   exact ih h.2 x d q
section
variable {g':Heap}
theorem St.sub(S:St c g R ρ σ own s)(h:RSub ρ' ρ):St c g R ρ' σ own s:=
 ⟨S.ok,S.rel,S.wd,S.gens,S.os,⟨x2_3 S.locs.loc λo m a b r=>(y23 o m a b (λx d e=>r x d (h x d e))),λx d e=>S.locs.cel x d (h x d e),S.locs.mine,S.locs.free,S.locs.inj⟩,S.frs⟩
theorem Rel.sublist{R':Pv}(x:Rel w g R σ h)(k:R'.Sublist R):Rel w g R' σ h:=
 ⟨x.keep,λp hp=>x.priv p (k.subset hp),x.nodup.sublist (k.map _),x.rep,λa o e b hb=>⟨(x.off a o e b hb).1,λhm=>(x.off a o e b hb).2 ((k.map _).subset hm)⟩,x.apart⟩
theorem St.drop{p:Addr × Obj}(hp:∃vs,p.2.data= .fields vs)(S:St c g (p::R) ρ σ own s):St c g R ρ σ own s:=by
 have sl:(own++R).Sublist (own++p::R):=(List.Sublist.refl own).append (List.sublist_cons_self p R)
 have mem:∀q∈own++p::R,q≠p→q∈own++R:=λq hq n=>by
  rcases List.mem_append.mp hq with h|h
  ·exact List.mem_append_left _ h
  ·rcases List.mem_cons.mp h with h|h
   ·exact absurd h n
   ·exact List.mem_append_right _ h
 obtain⟨vs,hv⟩:=hp
 exact S.to (S.rel.sublist sl) λhq n=>mem _ hq λe=>n (e▸qDX hv)
theorem Fly.sublist{R':Pv}{L:Option Addr}{e C:Addr}(F:Fly g R σ L e C h)(k:R'.Sublist R):Fly g R' σ L e C h:=by
 refine F.el λst F q=>?_;exact(.mk st (F.sublist k) q)
theorem St.frame(S:St c g R ρ σ own s)(ht:c.top=true):∃rest L,c.fr=c.env::rest∧c.env.frame=some L∧c.A.frames=some (c.env::rest):=by
 obtain⟨rest,e⟩:=S.ok.h0 ht
 obtain⟨_,L,_,hf,_⟩:=S.frs c.env (by rw[e];exact List.mem_cons_self)
 exact(y23 rest L e hf (by rw[←e];exact S.ok.hf))
theorem St.heap(S:St c g R ρ σ own s)(r:Rel c.w g (own++R) σ h'):St c g R ρ σ own {s with heap:=h'}:=⟨S.ok,r,S.wd,S.gens,S.os,S.locs,S.frs⟩
theorem came{ev:Value}(ht:c.top=true)(h:PX c g R ρ own X ev s):notedBy (model pw c.w) c.A c.env (λe s'=>cameBackBy (model pw c.w) c.A c.env (PX c g R ρ own X) e s') ev s:=by
 obtain⟨e,C,g',σ',rfl,l,S,F,x⟩:=h
 obtain⟨rest,L,hfr,hf,hA⟩:=S.frame ht
 unfold notedBy
 refine qC4 (s:=s) S.rel (by rw[←hf];exact F) (outer:=rest) (by rw[←hfr];exact S.frs) hA hf λh' r F'=>?_
 refine wpAny_bind (qIp (s:= {s with heap:=h'}) F' λT=>?_)
 rw[if_neg (by simp)]
 rw[hf]
 exact qBN (s:= {s with heap:=h'}) (fr:=some L) r F' λh2 r2 F2=>(.mk e C g' σ' rfl l (S.heap r2) (.mk _ F2 (λF q=>by injection q with q;rw[hf,q])) x)
theorem PX.drop{p:Addr × Obj}(hp:∃vs,p.2.data= .fields vs){ev:Value}(h:PX c g (p::R) ρ own X ev s):PX c g R ρ own X ev s:=by
 obtain⟨e,C,g',σ',rfl,l,S,F,x⟩:=h
 exact(.mk e C g' σ' rfl l (S.drop hp) (F.sublist ((List.Sublist.refl own).append (List.sublist_cons_self p R))) x)
end
theorem qBn{l:Pv}{L:Addr}{o':Obj}(h:(a,o)∈l)(n:a≠L):(a,o)∈l.map λp=>if p.1=L then(L,o')else p:=by
 refine List.mem_map.mpr (y12 (a,o) h ?_)
 rw[if_neg n]
theorem qEI{l:Pv}{L:Addr}{o':Obj}(h:(L,o)∈l):(L,o')∈l.map λp=>if p.1=L then(L,o')else p:=List.mem_map.mpr (y12 (L,o) h (by rw[if_pos rfl]))
theorem qBz(l:Pv)(L:Addr)(o':Obj):(l.map λp=>if p.1=L then(L,o')else p).map (·.1)=l.map (·.1):=by
 rw[List.map_map]
 refine List.map_congr_left λp _=>?_
 show(if p.1=L then(L,o')else p).1=p.1
 split
 ·rename_i h;exact h.symm
 ·rfl
theorem qBd{l:Pv}{L:Addr}{o':Obj}(h:L∉l.map (·.1)):(l.map λp=>if p.1=L then(L,o')else p)=l:=by
 have:(l.map λp=>if p.1=L then(L,o')else p)=l.map id:=List.map_congr_left λp hp=>by
  have k:p.1≠L:=λq=>h (by rw[←q];exact List.mem_map_of_mem hp)
  rw[if_neg k];rfl
 rw[this,List.map_id]
theorem Rel.set{L:Addr}{o':Obj}(x:Rel w g R σ h)(hm:(L,o)∈R)(hs:Heap.SameBut L h h')(ho:h'.get? L=some o'):Rel w g (R.map λp=>if p.1=L then(L,o')else p) σ h':=by
 have gl:g.get? L=none:=(x.priv _ hm).1
 have lm:L∈R.map (·.1):=List.mem_map_of_mem (f:=(·.1)) hm
 refine⟨λb ob q=>(hs.2 b (λz=>by rw[z,gl]at q;cases q)).trans (x.keep b ob q),λp hp=>?_,by rw[qBz];exact x.nodup,λb p q=>(x.rep b p q).heap λc hc ob e=>(hs.2 c (λz=>(x.off b p q c hc).2 (z▸lm))).trans e,
  λb p q c hc=>by rw[qBz];exact x.off b p q c hc,x.apart⟩
 obtain⟨q,hq,rfl⟩:=List.mem_map.mp hp
 by_cases k:q.1=L
 ·rw[if_pos k];exact⟨gl,.inl ho⟩
 ·rw[if_neg k];exact⟨(x.priv q hq).1,(x.priv q hq).2.le λob e=>(hs.2 _ k).trans e⟩
section
theorem PrivAt.ns{L:Addr}{m:Str→Option Value}(x:PrivAt h (L,o))(n:NsObj o m):h.Ns L m:=by
 rcases x with e| ⟨_,sl,e⟩
 ·exact n.ns e
 ·obtain⟨es,ep,r⟩:=n;exact(y32 _ es ep e r)
theorem qCw{Q:Unit→Shared→Prop}(S:St c g R ρ σ own s)(hx:c.env.kindOf x=some .local)(dv:DV g d v)
  (h:∀own' s',own'.map (·.1)=own.map (·.1)→St c g R (rset ρ x d) σ own' s'→Q () s'):wpAny (model pw c.w) c.A (storeName c.env x v) Q E s:=by
 obtain⟨o,m,hm,hn,r⟩:=S.locs.loc
 have pm:=S.rel.priv _ (List.mem_append_left R hm)
 refine wpAny_storeName_local hx (pm.2.ns hn) (λh' hn' hs=>?_) (by rw[S.ok.hk];rfl)
 obtain⟨o',ho',hno⟩:=ns_obj hn'
 have R':R.map (λp=>if p.1=c.env.locals then(c.env.locals,o')else p)=R:=qBd λq=>by
  have nd:=S.rel.nodup
  rw[List.map_append,List.nodup_append]at nd
  exact nd.2.2 _ (List.mem_map_of_mem (f:=(·.1)) hm) _ q rfl
 have rel:=S.rel.set (List.mem_append_left R hm) hs ho'
 rw[List.map_append,R']at rel
 have mv:∀{a:Addr} {ob:Obj},(a,ob)∈own++R→ob.data≠o.data→(a,ob)∈own.map (λp=>if p.1=c.env.locals then(c.env.locals,o')else p)++R:=λ{a ob} q nd=>by
  have na:a≠c.env.locals:=λz=>by
   subst z
   exact nd (congrArg Obj.data (qC2 S.rel.nodup q (List.mem_append_left R hm)))
  rcases List.mem_append.mp q with q|q
  ·exact List.mem_append_left _ (qBn q na)
  ·exact List.mem_append_right _ q
 have cd:∀{ob:Obj} {z:Option Value},ob.data= .cell z→ob.data≠o.data:=λ{ob z} e=>by
  obtain⟨es,ep,hd,_⟩:=hn;rw[hd,e];exact λq=>by cases q
 refine h (own.map λp=>if p.1=c.env.locals then(c.env.locals,o')else p) _ (qBz own c.env.locals o') ⟨S.ok,rel,S.wd,S.gens,S.os,⟨(y23 o' _ (qEI hm) hno (λy e he hy=>?_)),λy e he=>?_,λht y hy=>?_,S.locs.free,S.locs.inj⟩,λe he=>?_⟩
 ·rw[qBF]at he
  by_cases k:y=x
  ·rw[if_pos k]at he ⊢
   injection he with he;subst he
   exact(y12 v rfl dv)
  ·rw[if_neg k]at he ⊢
   exact r y e he hy
 ·rw[qBF]at he
  by_cases k:y=x
  ·subst k;exact .inl hx
  ·rw[if_neg k]at he
   exact qDq (S.locs.cel y e he) (λ_ _ _ _ _ e3 e2=>mv e2 (cd e3)) λ_ h=>h
 ·obtain⟨a,oc,vv,e1,e2,e3⟩:=S.locs.mine ht y hy
  refine(y33 a oc vv e1 ?_ e3)
  exact qBn e2 λz=>cd e3 (by subst z;exact congrArg Obj.data (qC2 S.rel.nodup (List.mem_append_left R e2) (List.mem_append_left R hm)))
 ·obtain⟨k,L,ob,hf,hm',hd⟩:=S.frs e he
  by_cases z:L=c.env.locals
  ·subst z
   refine⟨k,c.env.locals,o',hf,List.mem_append_left _ (qEI hm),?_⟩
   obtain⟨es,ep,hd,_⟩:=hno;exact(y21 es ep hd)
  ·refine⟨k,L,ob,hf,?_,hd⟩
   rcases List.mem_append.mp hm' with q|q
   ·exact List.mem_append_left _ (qBn q z)
   ·exact List.mem_append_right _ q
theorem qGP{Q:Unit→Shared→Prop}(S:St c g R ρ σ own s)(hx:c.env.kindOf x=some .local)(dv:DV g d v)
  (h:∀own' s',St c g R (rset ρ x d) σ own' s'→Q () s'):wpAny (model pw c.w) c.A (storeName c.env x v) Q E s:=qCw S hx dv λown' s' _ S'=>h own' s' S'
theorem qHg{Q:Unit→Shared→Prop}(S:St c g R ρ σ own s)(ht:c.top=true)(hx:c.env.kindOf x=some .cell)(dv:DV g d v)
  (h:∀own' s',St c g R (rset ρ x d) σ own' s'→Q () s'):wpAny (model pw c.w) c.A (storeName c.env x v) Q E s:=by
 obtain⟨a,oc,v0,hc,hm,hd⟩:=S.locs.mine ht x hx
 have pm:=S.rel.priv _ (List.mem_append_left R hm)
 have hv0:s.heap.IsCell a v0:=by
  rcases pm.2 with e| ⟨⟨es,ep,q⟩,_⟩
  ·exact(y12 oc e hd)
  ·rw[hd]at q;cases q
 refine wpAny_storeName_cell S.ok.hk hx hc hv0 λh' hn' hs=>?_
 obtain⟨o',ho',hno⟩:=hn'
 have R':R.map (λp=>if p.1=a then(a,o')else p)=R:=qBd λq=>by
  have nd:=S.rel.nodup
  rw[List.map_append,List.nodup_append]at nd
  exact nd.2.2 _ (List.mem_map_of_mem (f:=(·.1)) hm) _ q rfl
 have rel:=S.rel.set (List.mem_append_left R hm) hs ho'
 rw[List.map_append,R']at rel
 have mv:∀{b:Addr} {ob:Obj},(b,ob)∈own++R→b≠a→(b,ob)∈own.map (λp=>if p.1=a then(a,o')else p)++R:=λ{b ob} q na=>by
  rcases List.mem_append.mp q with q|q
  ·exact List.mem_append_left _ (qBn q na)
  ·exact List.mem_append_right _ q
 have dn:∀{b:Addr} {ob:Obj},(b,ob)∈own++R→qAz ob→b≠a:=λ{b ob} q ⟨es,ep,hdd⟩ z=>by
  subst z
  rw[qC2 S.rel.nodup q (List.mem_append_left R hm),hd]at hdd;cases hdd
 obtain⟨ol,m,hml,hnl,r⟩:=S.locs.loc
 have nl:c.env.locals≠a:=dn (List.mem_append_left R hml) (x2_2 hnl λes ep q _=>(y21 es ep q))
 refine h (own.map λp=>if p.1=a then(a,o')else p) _ ⟨S.ok,rel,S.wd,S.gens,S.os,⟨(y23 ol m (qBn hml nl) hnl (λy e he hy=>?_)),λy e he=>?_,λht y hy=>?_,S.locs.free,S.locs.inj⟩,λe he=>?_⟩
 ·rw[qBF]at he
  by_cases k:y=x
  ·subst k;rw[hx]at hy;cases hy
  ·rw[if_neg k]at he
   exact r y e he hy
 ·rw[qBF]at he
  by_cases k:y=x
  ·subst k
   rw[if_pos rfl]at he
   injection he with he;subst he
   exact .inr ⟨.inl hx,a,o',v,Cx.cellAt_of hc,List.mem_append_left _ (qEI hm),hno,dv⟩
  ·rw[if_neg k]at he
   refine qDq (S.locs.cel y e he) (λkk b ob vv e1 e3 e2=>mv e2 ?_) λ_ h=>h
   intro z
   subst z
   rcases kk with kk| ⟨kk,_⟩|kk
   ·obtain⟨b',_,_,e1',_⟩:=S.locs.mine ht y kk
    have e2':=Cx.cellAt_of e1'
    rw[e1]at e2'
    injection e2' with e2'
    exact k (S.locs.inj y x b kk hx (e2'▸e1') hc)
   ·exact S.locs.free y x b (.inl kk) hx e1 hc
   ·exact S.locs.free y x b (.inr kk) hx e1 hc
 ·obtain⟨b,ob,vv,e1,e2,e3⟩:=S.locs.mine ht y hy
  by_cases z:b=a
  ·subst z;exact(y33 b o' (some v) e1 (qEI hm) hno)
  ·exact(y33 b ob vv e1 (qBn e2 z) e3)
 ·obtain⟨k,L,ob,hf,hm',hd'⟩:=S.frs e he
  exact⟨k,L,ob,hf,mv hm' (dn hm' hd'),hd'⟩
theorem qAu{Q:Unit→Shared→Prop}(S:St c g R ρ σ own s)(hx:c.env.kindOf x=some .local∨c.top=true∧c.env.kindOf x=some .cell)(dv:DV g d v)
  (h:∀own' s',St c g R (rset ρ x d) σ own' s'→Q () s'):wpAny (model pw c.w) c.A (storeName c.env x v) Q E s:=
 hx.elim (λhx=>qGP S hx dv h) λhx=>qHg S hx.1 hx.2 dv h
end
noncomputable def goNames:List String:=["enumerate","zip","dict_itemiterator","dict_reverseitemiterator","odict_iterator","itertools.zip_longest","itertools.pairwise"]
def qBS(I:Addr)(h h':Heap):Prop:=∀b ob,b≠I→h.get? b=some ob→h'.get? b=some ob
structure Itr(w:World)(A:Around)(I:Addr)(ds:List D)(KS:Sg→Prop)(K:Nat→Heap→Obj→Prop):Prop where
 mono:∀i g g' o,Le g g'→K i g o→K i g' o
 fields:∀i g o,K i g o→∃vs n,o.data= .fields vs∧o.cls= .type n∧goNames.contains n=false
 next:∀i g R σ o (s:Shared) (Q:Option Value→Shared→Prop) (E:Value→Shared→Prop),Rel w g R σ s.heap→KS σ→(I,o)∈R→K i g o→i≤ds.length→
  (∀d v h' o' tk,ds[i]? =some d→DV g d v→K (i+1) g o'→h'.get? I=some o'→qBS I s.heap h'→Q (some v) {s with heap:=h',toks:=tk})→
  (i=ds.length→∀h' tk,qBS I s.heap h'→Q none {s with heap:=h',toks:=tk})→wpAny (model pw w) A (pyNext (.ref I)) Q E s
 self:∀i g R σ o (s:Shared) (Q:Value→Shared→Prop) (E:Value→Shared→Prop),Rel w g R σ s.heap→KS σ→(I,o)∈R→K i g o→Q (.ref I) s→wpAny (model pw w) A (pyIter (.ref I)) Q E s
theorem PrivAt.exact{p:Addr × Obj}(x:PrivAt h p){vs:Array Value}(hd:p.2.data= .fields vs):h.get? p.1=some p.2:=by
 rcases x with e| ⟨⟨es,ep,q⟩,_⟩
 ·exact e
 ·rw[hd]at q;cases q
theorem Itr.ofWalks{I:Addr}{fp:List Addr}{P:Nat→Value→Prop}{S:Nat→Heap→Prop}{KS:Sg→Prop}{K:Nat→Heap→Obj→Prop}(W:Walks pw w A I fp [I] n P S)(hn:n=ds.length)
  (mono:∀i g g' o,Le g g'→K i g o→K i g' o)(fields:∀i g o,K i g o→∃vs n,o.data= .fields vs∧o.cls= .type n∧goNames.contains n=false)
  (to:∀i g R σ o h,Rel w g R σ h→KS σ→h.get? I=some o→K i g o→S i h∧(∀v,P i v→∃d,ds[i]? =some d∧DV g d v)∧∀h',S (i+1) h'→∃o',h'.get? I=some o'∧K (i+1) g o'):Itr w A I ds KS K where
 mono:=mono
 fields:=fields
 self:=λi g R σ o s Q E r ks hm k q=>by
  obtain⟨vs,n,hdt,_⟩:=fields i g o k
  exact W.self i s Q E (to i g R σ o s.heap r ks ((r.priv _ hm).2.exact hdt) k).1 q
 next:=λi g R σ o s Q E r ks hm k hi hs hd=>by
  subst hn
  obtain⟨vs,n,hdt,_⟩:=fields i g o k
  obtain⟨t1,t2,t3⟩:=to i g R σ o s.heap r ks ((r.priv _ hm).2.exact hdt) k
  by_cases q:i < ds.length
  ·refine W.item i s Q E q t1 λv h' tk hv st kp=>?_
   obtain⟨d,e1,dv⟩:=t2 v hv
   obtain⟨o',e2,k'⟩:=t3 h' st
   exact hs d v h' o' tk e1 dv k' e2 λb ob hb=>kp b ob (by simpa using hb)
  ·have:i=ds.length:=Nat.le_antisymm hi (Nat.le_of_not_lt q)
   subst this
   exact W.done s Q E t1 λh' tk kp=>hd rfl h' tk λb ob hb=>kp b ob (by simpa using hb)
section
theorem Rel.iter{I:Addr}{o':Obj}{vs:Array Value}(x:Rel w g R σ h)(hm:(I,o)∈R)(ho:h'.get? I=some o')(k:qBS I h h'):Rel w g (R.map λp=>if p.1=I then(I,o')else p) σ h':=by
 have gl:g.get? I=none:=(x.priv _ hm).1
 have lm:I∈R.map (·.1):=List.mem_map_of_mem (f:=(·.1)) hm
 refine⟨λb ob q=>k b ob (λz=>by rw[z,gl]at q;cases q) (x.keep b ob q),λp hp=>?_,by rw[qBz];exact x.nodup,λb p q=>(x.rep b p q).heap λc hc ob e=>k c ob (λz=>(x.off b p q c hc).2 (z▸lm)) e,
  λb p q c hc=>by rw[qBz];exact x.off b p q c hc,x.apart⟩
 obtain⟨q,hq,rfl⟩:=List.mem_map.mp hp
 by_cases z:q.1=I
 ·rw[if_pos z];exact⟨gl,.inl ho⟩
 ·rw[if_neg z];exact⟨(x.priv q hq).1,(x.priv q hq).2.le λob e=>k _ _ z e⟩
theorem St.turnI{I:Addr}{o':Obj}{tk:Nat}(S:St c g ((I,o)::R) ρ σ own s)(hf:∃vs,o.data= .fields vs)(ho:h'.get? I=some o')(k:qBS I s.heap h'):St c g ((I,o')::R) ρ σ own {s with heap:=h',toks:=tk}:=by
 have hm:(I,o)∈own++(I,o)::R:=List.mem_append_right _ List.mem_cons_self
 have nd:=S.rel.nodup
 rw[List.map_append,List.nodup_append]at nd
 have n1:I∉own.map (·.1):=λq=>nd.2.2 _ q _ (by simp) rfl
 have n2:I∉R.map (·.1):=λq=>(List.nodup_cons.mp nd.2.1).1 q
 have rel:=S.rel.iter (vs:=#[]) hm ho k
 rw[List.map_append,List.map_cons,if_pos rfl,qBd n1,qBd n2]at rel
 obtain⟨vs,hv⟩:=hf
 have mv:∀{a:Addr} {ob:Obj},(a,ob)∈own++(I,o)::R→ob.data≠o.data→(a,ob)∈own++(I,o')::R:=λ{a ob} q n=>by
  rcases List.mem_append.mp q with q|q
  ·exact List.mem_append_left _ q
  ·rcases List.mem_cons.mp q with q|q
   ·injection q with q1 q2;subst q2;exact absurd rfl n
   ·exact List.mem_append_right _ (List.mem_cons_of_mem _ q)
 exact S.to rel λhq n=>mv hq λe=>n (qDX (e.trans hv))
theorem St.endI{I:Addr}{tk:Nat}(S:St c g ((I,o)::R) ρ σ own s)(hf:∃vs,o.data= .fields vs)(k:qBS I s.heap h'):St c g R ρ σ own {s with heap:=h',toks:=tk}:=by
 have nd:=S.rel.nodup
 rw[List.map_append,List.nodup_append]at nd
 have n1:I∉own.map (·.1):=λq=>nd.2.2 _ q _ (by simp) rfl
 have n2:I∉R.map (·.1):=λq=>(List.nodup_cons.mp nd.2.1).1 q
 have hm:(I,o)∈own++(I,o)::R:=List.mem_append_right _ List.mem_cons_self
 have fr:g.get? I=none∧Free (own++R) σ I:=⟨(S.rel.priv _ hm).1,λq=>by
  rw[List.map_append]at q
  exact(List.mem_append.mp q).elim n1 n2,λa ob e hb=>(S.rel.off a ob e I hb).2 (List.mem_map_of_mem (f:=(·.1)) hm)⟩
 have S':=S.drop hf
 have S2:=(S'.heap (S'.rel.aside (f:=λb=>b=I) (λb hb=>by subst hb;exact fr) λb ob hb q=>k b ob hb q))
 exact S2.toks tk
theorem St.newI{vs:Array Value}(S:St c g R ρ σ own s)(hd:o.data= .fields vs):St c g ((s.heap.objs.size,o)::R) ρ σ own {s with heap:=s.heap.push o}:=by
 have hfree:o.isFreed=false:=Obj.isFreed_of_fields hd
 have k:Le s.heap (s.heap.push o):=λb ob e=>Heap.get?_push_of_some _ e
 obtain⟨t1,t2,t3⟩:=S.rel.taken (qAM s.heap)
 have r:=S.rel.ext k
 have rel:Rel c.w g (own++(s.heap.objs.size,o)::R) σ (s.heap.push o):=by
  have pm:(own++(s.heap.objs.size,o)::R).Perm ((s.heap.objs.size,o)::(own++R)):=List.perm_middle
  refine⟨r.keep,λp hp=>?_,(pm.map (·.1)).nodup_iff.mpr (List.nodup_cons.mpr ⟨t2,r.nodup⟩),r.rep,λa p e b hb=>⟨(r.off a p e b hb).1,λq=>?_⟩,r.apart⟩
  ·rcases List.mem_cons.mp (pm.subset hp)with rfl|hp
   ·exact⟨t1,.inl (Heap.get?_push_size _ hfree)⟩
   ·exact r.priv p hp
  ·rcases List.mem_cons.mp ((pm.map (·.1)).subset q)with q|q
   ·exact t3 a p e (by rw[←(show b=s.heap.objs.size from q)];exact hb)
   ·exact(r.off a p e b hb).2 q
 have mv:∀{q:Addr × Obj},q∈own++R→q∈own++(s.heap.objs.size,o)::R:=λ{q} h=>(List.mem_append.mp h).elim (List.mem_append_left _) λh=>List.mem_append_right _ (List.mem_cons_of_mem _ h)
 exact S.to rel λhq _=>mv hq
end
theorem Itr.go{A':Around}{M:Model}{I:Addr}{KS:Sg→Prop}{K:Nat→Heap→Obj→Prop}(X:Itr w A I ds KS K){i:Nat}(k:K i g o)(ho:s.heap.get? I=some o){t:Expr}{Q:Unit→Shared→Prop}(h:Q () s):
  wpAny M A' (letOwnedTupleGo t (.ref I) v) Q E s:=by
 obtain⟨vs,n,hd,hc,hn⟩:=X.fields i g o k
 have key:∀a:Addr,wpAny M A' (do
   let o ←load I
   match o.cls,o.data with
   | .type n,.fields vs=>
    if ["enumerate","zip","dict_itemiterator","dict_reverseitemiterator","odict_iterator","itertools.zip_longest","itertools.pairwise"].contains n && vs[0]? ==some (rawInt a) then
     rule "for.unpacks-the-owned-tuple"
     updateField I 0 .none
   |_,_=>pure ()) Q E s:=λa=>by
  refine wpAny_bind (wpAny_load ho ?_)
  rw[hc,hd]
  show wpAny M A' (if(["enumerate","zip","dict_itemiterator","dict_reverseitemiterator","odict_iterator","itertools.zip_longest","itertools.pairwise"].contains n && vs[0]? ==some (rawInt a))=true then _ else _) Q E s
  have hn': ["enumerate","zip","dict_itemiterator","dict_reverseitemiterator","odict_iterator","itertools.zip_longest","itertools.pairwise"].contains n=false:=hn
  rw[hn',Bool.false_and,if_neg (by decide)]
  exact wpAny_pure h
 have body:wpAny M A' (letOwnedTupleGo (.List [] ⟨0,0,0,0⟩) (.ref I) v) Q E s:=by cases v <;> first|exact wpAny_pure h|exact key _
 cases t <;> first|exact wpAny_pure h|exact body
def SRC.Ar(c:Cx)(d:D)(ds:List D)(KS:Sg→Prop)(ρ:Ro)(σ:Sg):Prop:=∀g R own s v,St c g R ρ σ own s→DV g d v→wpAny (model pw c.w) c.A (pyIter v) (λit s1=>∃I K g1 o1,it= .ref I∧Le g g1∧Itr c.w c.A I ds KS K∧K 0 g1 o1∧St c g1 ((I,o1)::R) ρ σ own s1) (λ_ _=>False) s
@[irreducible] def SRC (c:Cx) (d:D) (ds:List D) (KS:Sg→Prop) (ρ:Ro) (σ:Sg):Prop:=SRC.Ar c d ds KS ρ σ
theorem SRC.mk{KS:Sg→Prop}(h:SRC.Ar c d ds KS ρ σ):SRC c d ds KS ρ σ:=by delta SRC;exact h
theorem SRC.go{KS:Sg→Prop}(h:SRC c d ds KS ρ σ):SRC.Ar c d ds KS ρ σ:=by delta SRC at h;exact h
section
theorem qEL{vs:Array Value}(x:IsTup g a vs)(k:Le g h):h.IsTuple a vs:=x.keeps k
theorem DVs.at(h:DVs g ds vs){i:Nat}(e:vs[i]? =some v):∃d,ds[i]? =some d∧DV g d v:=by
 cases q:ds[i]? with
 |none=>
  have q1:=List.getElem?_eq_none_iff.mp q
  have q2:=(List.getElem?_eq_some_iff.mp e).1
  rw[h.length]at q2
  exact absurd q2 (Nat.not_lt.mpr q1)
 |some d=>
  obtain⟨v',e',dv⟩:=h.get q
  rw[e]at e';injection e' with e';subst e'
  exact(y12 d rfl dv)
theorem qCM{KS:Sg→Prop}(hb:c.bare=true):SRC c (.tup ds) ds KS ρ σ:=.mk λg R own s v S dv=>by
 refine dv.on λa vs ht hv=>?_
 have hi:=qEL ht S.rel.keep
 refine wpAny_pyIter_tuple hi (y45 _ (λi g o=>(o.cls= .type "tuple_iterator"∧o.data= .fields #[.ref a,.int i 0])∧IsTup g a vs.toArray∧DVs g ds vs) g _ rfl (Le.refl g) ?_ (y03 ⟨rfl,rfl⟩ ht hv) (S.newI rfl))
 have hne:a≠s.heap.objs.size:=λq=>by
  obtain⟨o,ho,_⟩:=hi
  rw[q,qAM]at ho;cases ho
 refine Itr.ofWalks (Walks.tuple (S.ok.hh hb) _ a hne vs.toArray) (by rw[List.size_toArray,hv.length]) (λi g g' o k o1'=>x0_3 o1' λe t r=>(y03 e (t.keeps k) (r.mono k))) (λi g o o1'=>x0_2 o1' λo2' _=>x0_2 o2' λe1 e2=>(y23 _ _ e2 e1 (by decide)))
  λi g R σ o h r _ ho ⟨⟨e1,e2⟩,t,dvs⟩=>(y03 ⟨(y13 o ho e1 e2),qEL t r.keep⟩ (λv hv'=>dvs.at (by simpa using hv')) (λh' ⟨⟨o',ho',hc,hd⟩,_⟩=>(y14 o' ho' ⟨hc,hd⟩ t dvs)))
theorem qAN{KS:Sg→Prop}(hb:c.bare=true):SRC c (.lst ds) ds KS ρ σ:=.mk λg R own s v S dv=>by
 refine dv.on λa vs ht hv=>?_
 have il:∀{g h:Heap},g.IsList a vs.toArray→Le g h→h.IsList a vs.toArray:=λe k=>e.at (k _)
 have hi:=il ht S.rel.keep
 refine wpAny_pyIter_list hi (y45 _ (λi g o=>(o.cls= .type "list_iterator"∧o.data= .fields #[.ref a,.int i 0])∧g.IsList a vs.toArray∧DVs g ds vs) g _ rfl (Le.refl g) ?_ (y03 ⟨rfl,rfl⟩ ht hv) (S.newI rfl))
 have hne:a≠s.heap.objs.size:=λq=>by
  obtain⟨o,ho,_⟩:=hi
  rw[q,qAM]at ho;cases ho
 refine Itr.ofWalks (Walks.list (S.ok.hh hb) _ a hne vs.toArray) (by rw[List.size_toArray,hv.length]) (λi g g' o k o5'=>x0_3 o5' λe t r=>(y03 e (il t k) (r.mono k))) (λi g o o7'=>x0_2 o7' λo8' _=>x0_2 o8' λe1 e2=>(y23 _ _ e2 e1 (by decide)))
  λi g R σ o h r _ ho ⟨⟨e1,e2⟩,t,dvs⟩=>(y03 ⟨(y13 o ho e1 e2),il t r.keep⟩ (λv hv'=>dvs.at (by simpa using hv')) (λh' ⟨⟨o',ho',hc,hd⟩,_⟩=>(y14 o' ho' ⟨hc,hd⟩ t dvs)))
noncomputable def signs(x:Str):List D:=x.cps.toList.map λc=>.str ⟨#[c]⟩
theorem qH2{KS:Sg→Prop}(hb:c.bare=true):SRC c (.str x) (signs x) KS ρ σ:=.mk λg R own s v S dv=>by
 refine dv.on λt=>?_
 have item:∀(g:Heap) i v,SignAt x i v→∃d,(signs x)[i]? =some d∧DV g d v:=λg i v o13'=>x2_2 o13' λch u e ev=>(y12 (.str ⟨#[ch]⟩) (by unfold signs;rw[List.getElem?_map,Array.getElem?_toList,e];rfl) (by subst ev;exact .str _ _))
 have len:x.cps.size=(signs x).length:=by simp[signs]
 cases ha:x.cps.all (· < 128)
 ·refine wpAny_pyIter_wide ha (y45 _ (λi g o=>o.cls= .type "str_iterator"∧o.data= .fields #[.str x t,.int i 0]) g _ rfl (Le.refl g) ?_ ⟨rfl,rfl⟩ (S.newI rfl))
  exact Itr.ofWalks (Walks.strWide (S.ok.hh hb) _ x t) len (λi g g' o k e=>e) (λi g o o10'=>x0_2 o10' λe1 e2=>(y23 _ _ e2 e1 (by decide)))
   λi g R σ o h r _ ho o11'=>x0_2 o11' λe1 e2=>(y03 (y13 o ho e1 e2) (λv hv'=>item g i v hv') (λh' o14'=>x1_3 o14' λo' ho' hc hd=>(y13 o' ho' hc hd)))
 ·refine wpAny_pyIter_ascii ha (y45 _ (λi g o=>o.cls= .type "str_ascii_iterator"∧o.data= .fields #[.str x t,.int i 0]) g _ rfl (Le.refl g) ?_ ⟨rfl,rfl⟩ (S.newI rfl))
  exact Itr.ofWalks (Walks.strAscii (S.ok.hh hb) _ x t) len (λi g g' o k e=>e) (λi g o o13'=>x0_2 o13' λe1 e2=>(y23 _ _ e2 e1 (by decide)))
   λi g R σ o h r _ ho o14'=>x0_2 o14' λe1 e2=>(y03 (y13 o ho e1 e2) (λv hv'=>item g i v hv') (λh' o15'=>x1_3 o15' λo' ho' hc hd=>(y13 o' ho' hc hd)))
theorem qDI(hb:c.bare=true)(h:σ a=some (.list ds)):SRC c (.obj a) ds (λτ=>τ a=some (.list ds)) ρ σ:=.mk λg R own s v S dv=>by
 refine dv.on λ_=>?_
 have il:∀{w:World} {g h:Heap} {R:Pv} {σ:Sg},Rel w g R σ h→σ a=some (.list ds)→∃vs,h.IsList a vs∧DVs g ds vs.toList:=λr e=>x2_2 (r.rep a _ e) λvs n e1 dv=>(y12 vs (y13 _ e1 rfl ⟨_,rfl⟩) dv)
 obtain⟨vs,hi,dvs⟩:=il S.rel h
 have hne:a≠s.heap.objs.size:=λq=>by
  obtain⟨o,ho,_⟩:=hi
  rw[q,qAM]at ho;cases ho
 refine wpAny_pyIter_list hi (y45 _ (λi g o=>(o.cls= .type "list_iterator"∧o.data= .fields #[.ref a,.int i 0])) g _ rfl (Le.refl g) ⟨λi g g' o k e=>e,λi g o o16'=>x0_2 o16' λe1 e2=>(y23 _ _ e2 e1 (by decide)),?_,λi g R σ o s1 Q E r ks hm k q=>wpAny_pyIter_listiter (y12 o ((r.priv _ hm).2.exact k.2) k) q⟩ ⟨rfl,rfl⟩ (S.newI rfl))
 intro i g R σ o s1 Q E r ks hm k hi hs hd
 obtain⟨ws,hw,dws⟩:=il r ks
 have W:=Walks.list (prog:=pw) (w:=c.w) (S.ok.hh hb) s.heap.objs.size a hne ws
 have len:ws.size=ds.length:=by rw[←dws.length,Array.length_toList]
 have ho:=(r.priv _ hm).2.exact k.2
 by_cases q:i < ds.length
 ·refine W.item i s1 Q E (by rw[len];exact q) ⟨(y12 o ho k),hw⟩ λv h' tk hv st kp=>?_
  obtain⟨d,e1,dv⟩:=dws.at (i:=i) (v:=v) (by simpa using hv)
  obtain⟨⟨o',ho',hc,hd'⟩,_⟩:=st
  exact hs d v h' o' tk e1 dv ⟨hc,hd'⟩ ho' λb ob hb=>kp b ob (by simpa using hb)
 ·have:i=ds.length:=Nat.le_antisymm hi (Nat.le_of_not_lt q)
  exact W.done s1 Q E (by show _∧_;rw[len,←this];exact⟨(y12 o ho k),hw⟩) λh' tk kp=>hd this h' tk λb ob hb=>kp b ob (by simpa using hb)
end
def AS.Ar(c:Cx)(t:Expr)(d:D)(ρ:Ro)(σ:Sg)(N:Ro→Sg→Prop)(X:Addr→Sg→Prop):Prop:=∀g R own s v,St c g R ρ σ own s→DV g d v→wpAny (model pw c.w) c.A (assign t c.env v) (λ_ s'=>PN c g R N s') (PX c g R ρ own X) s
@[irreducible] def AS (c:Cx) (t:Expr) (d:D) (ρ:Ro) (σ:Sg) (N:Ro→Sg→Prop) (X:Addr→Sg→Prop):Prop:=AS.Ar c t d ρ σ N X
theorem AS.mk{t:Expr}(h:AS.Ar c t d ρ σ N X):AS c t d ρ σ N X:=by delta AS;exact h
theorem AS.go{t:Expr}(h:AS c t d ρ σ N X):AS.Ar c t d ρ σ N X:=by delta AS at h;exact h
def ASs.Ar(c:Cx)(ts:List Expr)(ds:List D)(ρ:Ro)(σ:Sg)(N:Ro→Sg→Prop):Prop:=∀g R own s vs,St c g R ρ σ own s→DVs g ds vs→wpAny (model pw c.w) c.A (assignInOrder ((assignEach ts c.env).map (·.2)) vs) (λ_ s'=>PN c g R N s') (λ_ _=>False) s
@[irreducible] def ASs (c:Cx) (ts:List Expr) (ds:List D) (ρ:Ro) (σ:Sg) (N:Ro→Sg→Prop):Prop:=ASs.Ar c ts ds ρ σ N
theorem ASs.mk{ts:List Expr}(h:ASs.Ar c ts ds ρ σ N):ASs c ts ds ρ σ N:=by delta ASs;exact h
theorem ASs.go{ts:List Expr}(h:ASs c ts ds ρ σ N):ASs.Ar c ts ds ρ σ N:=by delta ASs at h;exact h
abbrev kAS(c:Cx)(X:Addr→Sg→Prop)(ρ:Ro)(t:Expr)(N:Ro→Sg→Prop):D→Sg→Prop:=λd τ=>AS c t d ρ τ N X
abbrev nm(c:Cx)(x:Str):Prop:=c.env.kindOf x=some .local∨c.top=true∧c.env.kindOf x=some .cell
section
variable {X:Ro→Addr→Sg→Prop}
theorem AS_name{X:Addr→Sg→Prop}(hx:nm c x)(h:N (rset ρ x d) σ):AS c (.Name x p) d ρ σ N X:=.mk λg R own s v S dv=>
 wpAny_assign_Name (qAu S hx dv λown' s' S'=>(.mk g own' _ σ (Le.refl g) S' h))
theorem qBU(h:N ρ σ):ASs c [] [] ρ σ N:=.mk λg R own s vs S dvs=>by
 refine dvs.end ?_
 exact wpAny_assignInOrder_none (.mk g own ρ σ (Le.refl g) S h)
theorem qAK{ts:List Expr}(hx:nm c x)(h:ASs c ts ds (rset ρ x d) σ N)(he:autoParam ((assignEach (.Name x p::ts) c.env).map (·.2)=assign (.Name x p) c.env::(assignEach ts c.env).map (·.2)) auR):
  ASs c (.Name x p::ts) (d::ds) ρ σ N:=.mk λg R own s vs S dvs=>by
 refine dvs.on λ_ _ dv dvs=>?_
 rw[he]
 exact wpAny_assignInOrder_more (wpAny_assign_Name (qAu S hx dv λown' s' S'=>h.go g R own' s' _ S' dvs))
theorem qCD{ts:List Expr}{X:Addr→Sg→Prop}(hb:c.bare=true)(h:ASs c ts ds ρ σ N)(hn:autoParam (ds.length=(assignEach ts c.env).length) auR)(hs:autoParam (none=(assignEach ts c.env).findIdx? (·.1)) auR):
  AS c (.Tuple ts k p) (.tup ds) ρ σ N X:=.mk λg R own s v S dv=>by
 refine dv.on λ_ _ ht dvs=>?_
 refine assign_Tuple_tuple (S.ok.hh hb) (ht.keeps S.rel.keep) (by rw[hn.symm,List.size_toArray,dvs.length]) hs.symm λh' hx=>?_
 have k:Le s.heap h':=λb o e=>hx b o (Nat.ne_of_lt (Heap.lt_size e)) e
 have S':=S.heap (S.rel.ext k)
 have e:∀l:List Value,l.toArray.toList=l:=λl=>rfl
 rw[e]
 exact wpAny_mono (h.go g R own _ _ S' dvs) (λ_ _ x=>x) λ_ _ x=>x.elim
theorem STs_nil(h:N ρ σ):STs c [] ρ σ N Rt X:=.mk λg R own s S=>wpAny_execs_nil (.mk g own ρ σ (Le.refl g) S h)
theorem STs_cons{st:Stmt}{rest:List Stmt}(h:ST c st ρ σ (kSeq c Rt X N rest) Rt X):STs c (st::rest) ρ σ N Rt X:=.mk λg R own s S=>
 wpAny_execs_cons (wpAny_mono (h.go g R own s S) (λfl s1 p=>by
  cases fl with
  |next=>
   obtain⟨g1,own1,ρ1,σ1,l1,S1,q⟩:=p
   exact wpAny_mono (q.go g1 R own1 s1 S1) (λ_ _ p=>PF.le l1 p) λ_ _ p=>PXs.le l1 p
  |ret v=>exact p
  |brk=>exact p
  |cont=>exact p) λ_ _ x=>x)
theorem qJX(h:WE c e ρ σ Rt (X ρ)):ST c (.Return (some e) p) ρ σ N Rt X:=.mk λg R own s S=>
 wpAny_Return_some (wpAny_mono (h.go g R own s S) (λv s1 p9=>p9.el λg1 d σ1 l1 S1 dv q=>(.mk g1 own ρ σ1 d l1 S1 dv q)) λ_ _ x=>x.toS)
theorem qID(h:Rt .none σ):ST c (.Return none p) ρ σ N Rt X:=.mk λg R own s S=>wpAny_Return_none (.mk g own ρ σ .none (Le.refl g) S .none h)
theorem ST_Expr(h:WE c e ρ σ (kDrop ρ N) (X ρ))(hi:autoParam (false=interactive c.env) auR)(hs:autoParam (pure false=swapsWith e none p.line c.env) auR):ST c (.Expr e p) ρ σ N Rt X:=.mk λg R own s S=>
 wpAny_Expr_any (wpAny_mono (h.go g R own s S) (λv s1 p9=>p9.el λg1 d σ1 l1 S1 dv q=>(.mk g1 own ρ σ1 l1 S1 q)) λ_ _ x=>x.toS) hi.symm hs.symm
theorem ST_If{t:Expr}{a b:List Stmt}(h:WB c t ρ σ (kIf c Rt X ρ N a b) (X ρ)):ST c (.If t a b p) ρ σ N Rt X:=.mk λg R own s S=>
 wpAny_If (wpAny_mono (h.go g R own s S) (λv s1 p9=>p9.el λg1 σ1 l1 S1 q=>by
  cases v
  ·exact wpAny_mono (q.go g1 R own s1 S1) (λ_ _ p=>PF.le l1 p) λ_ _ p=>PXs.le l1 p
  ·exact wpAny_mono (q.go g1 R own s1 S1) (λ_ _ p=>PF.le l1 p) λ_ _ p=>PXs.le l1 p) λ_ _ x=>x.toS)
theorem qGE{p':Pos}(hx:nm c x)(h:WE c e ρ σ (kSet ρ N x) (X ρ))(hs:autoParam (pure false=swapsWith e (some (.Name x p')) p.line c.env) auR):ST c (.Assign [.Name x p'] e p) ρ σ N Rt X:=.mk λg R own s S=>
 wpAny_Assign_Name (wpAny_mono (h.go g R own s S) (λv s1 p9=>p9.el λg1 d σ1 l1 S1 dv q=>qAu S1 hx dv λown' s' S'=>(.mk g1 own' _ σ1 l1 S' q)) λ_ _ x=>x.toS) hs.symm
theorem qGD{ts:List Expr}{tp:Pos}(h:WE c e ρ σ (kAS c (X ρ) ρ (.Tuple ts k tp) N) (X ρ))(hs:autoParam (pure false=swapsWithSole [.Tuple ts k tp] e p.line c.env) auR)
  (hw:autoParam (pure none=swappedStores [.Tuple ts k tp] e c.env) auR):ST c (.Assign [.Tuple ts k tp] e p) ρ σ N Rt X:=.mk λg R own s S=>
 Assign_Tuple (wpAny_mono (h.go g R own s S) (λv s1 p9=>p9.el λg1 d σ1 l1 S1 dv q=>wpAny_mono (q.go g1 R own s1 v S1 dv) (λ_ s2 p9=>p9.el λg2 own2 ρ2 σ2 l2 S2 q2=>(.mk g2 own2 ρ2 σ2 (l1.trans l2) S2 q2)) λ_ _ x=>(x.le l1).toS) λ_ _ x=>x.toS) hs.symm hw.symm
abbrev kDown(n:Nat)(I:Nat→Ro→Sg→Prop):Ro→Sg→Prop:=λρ τ=>∃m,m < n∧I m ρ τ
abbrev kWhl(c:Cx)(b:List Stmt)(ρ:Ro)(n:Nat)(I:Nat→Ro→Sg→Prop)(N:Ro→Sg→Prop)(Rt:D→Sg→Prop)(X:Ro→Addr→Sg→Prop):Bool→Sg→Prop:=λv τ=>if v then STs c b ρ τ (kDown n I) Rt X else N ρ τ
theorem qDH{t:Expr}{b:List Stmt}(ht:c.top=true)(I:Nat→Ro→Sg→Prop)(n:Nat)(h0:I n ρ σ)
  (h:∀n ρ1 σ1,I n ρ1 σ1→WB c t ρ1 σ1 (kWhl c b ρ1 n I N Rt X) (X ρ1)):ST c (.While t b [] p) ρ σ N Rt X:=.mk λg R own s S=>by
 refine wpAny_While (codeAny_whileLoop (λn s'=>∃g1 own1 ρ1 σ1,Le g g1∧St c g1 R ρ1 σ1 own1 s'∧I n ρ1 σ1) (λn s1 o1'=>x4_3 o1' λg1 own1 ρ1 σ1 l1 S1 i1=>?_) n (y43 g own ρ σ (Le.refl g) S h0))
 have back:∀{g1 ρ' own' ev s'},Le g g1→PX c g1 R ρ' own' (X ρ') ev s'→notedBy (model pw c.w) c.A c.env (λe s'=>cameBackBy (model pw c.w) c.A c.env (PXs c g R X) e s') ev s':=λ{g1 ρ' own' ev s'} l x=>
  wpAny_mono (came ht x) (λ_ _ y=>wpAny_mono y (λ_ _ z=>(z.le l).toS) λ_ _ z=>(z.le l).toS) λ_ _ y=>wpAny_mono y (λ_ _ z=>(z.le l).toS) λ_ _ z=>(z.le l).toS
 refine wpAny_mono ((h n ρ1 σ1 i1).go g1 R own1 s1 S1) (λv s2 o2'=>o2'.el λg2 σ2 l2 S2 q=>?_) λev s2 x=>back l1 x
 cases v
 ·exact wpAny_execs_nil (.mk g2 own1 ρ1 σ2 (l1.trans l2) S2 q)
 ·refine wpAny_mono (q.go g2 R own1 s2 S2) (λfl s3 p=>?_) λev s3 o3'=>o3'.el λown3 ρ3 x=>back (l1.trans l2) x
  cases fl with
  |next=>obtain⟨g3,own3,ρ3,σ3,l3,S3,m,hm,i3⟩:=p;exact(y12 m hm ⟨g3,own3,ρ3,σ3,(l1.trans l2).trans l3,S3,i3⟩)
  |ret v=>exact PF.le (l1.trans l2) p
  |brk=>exact p.elim
  |cont=>exact p.elim
theorem qEo{i m:Nat}(hn:n+i=m):i≤m:=hn▸Nat.le_add_left i n
theorem qB7{i m:Nat}(hn:n+i=m)(h:i < m):n - 1 < n∧n - 1+(i+1)=m:=by
 cases n with
 |zero=>exact absurd ((Nat.zero_add i).symm.trans hn) (Nat.ne_of_lt h)
 |succ k=>exact⟨Nat.lt_succ_self k,(Nat.succ_add_eq_add_succ k i).symm.trans hn⟩
def FJ.Ar(Z:Prop)(c:Cx)(ρ:Ro)(B:(Nat→Ro→Sg→Prop)→Nat→Ro→D→Sg→Prop)(N:Ro→Sg→Prop)(d:D)(τ:Sg):Prop:=∀(ds:List D) (KS:Sg→Prop) (src:SRC c d ds KS ρ τ) (I:Nat→Ro→Sg→Prop) (i0:I 0 ρ τ) (iK:∀i ρ1 τ1,I i ρ1 τ1→KS τ1) (step:∀i ρ1 τ1 d,ds[i]? =some d→I i ρ1 τ1→B I i ρ1 d τ1) (fin:∀ρ1 τ1,I ds.length ρ1 τ1→N ρ1 τ1),Z
@[irreducible] def FJ (c:Cx) (ρ:Ro) (B:(Nat→Ro→Sg→Prop)→Nat→Ro→D→Sg→Prop) (N:Ro→Sg→Prop) (d:D) (τ:Sg):Prop:=∀Z,FJ.Ar Z c ρ B N d τ→Z
theorem FJ.mk{B:(Nat→Ro→Sg→Prop)→Nat→Ro→D→Sg→Prop}:FJ.Ar (FJ c ρ B N d τ) c ρ B N d τ:=by delta FJ;exact λds KS src I i0 iK step fin _ k=>k ds KS src I i0 iK step fin
theorem FJ.el{B:(Nat→Ro→Sg→Prop)→Nat→Ro→D→Sg→Prop}(h:FJ c ρ B N d τ):FJ.Ar Z c ρ B N d τ→Z:=by delta FJ at h;exact h Z
def FI.Ar(Z:Prop)(c:Cx)(g:Heap)(R:Pv)(It:Addr)(m:Nat)(I:Nat→Ro→Sg→Prop)(K:Nat→Heap→Obj→Prop)(n:Nat)(s':Shared):Prop:=∀(i:Nat) (g1:Heap) (own1:Pv) (ρ1:Ro) (σ1:Sg) (o1:Obj) (hn:n+i=m) (l:Le g g1) (S:St c g1 ((It,o1)::R) ρ1 σ1 own1 s') (hi:I i ρ1 σ1) (k:K i g1 o1),Z
@[irreducible] def FI (c:Cx) (g:Heap) (R:Pv) (It:Addr) (m:Nat) (I:Nat→Ro→Sg→Prop) (K:Nat→Heap→Obj→Prop) (n:Nat) (s':Shared):Prop:=∀Z,FI.Ar Z c g R It m I K n s'→Z
theorem FI.mk{It:Addr}{m:Nat}{I:Nat→Ro→Sg→Prop}{K:Nat→Heap→Obj→Prop}:FI.Ar (FI c g R It m I K n s') c g R It m I K n s':=by delta FI;exact λi g1 own1 ρ1 σ1 o1 hn l S hi k _ kk=>kk i g1 own1 ρ1 σ1 o1 hn l S hi k
theorem FI.el{It:Addr}{m:Nat}{I:Nat→Ro→Sg→Prop}{K:Nat→Heap→Obj→Prop}(h:FI c g R It m I K n s'):FI.Ar Z c g R It m I K n s'→Z:=by delta FI at h;exact h Z
theorem qJB{g1:Heap}{own':Pv}{It:Addr}{ev:Value}(ht:c.top=true)(hf:∃vs,o.data= .fields vs)(l:Le g g1)(x:PX c g1 ((It,o)::R) ρ' own' (X ρ') ev s'):notedBy (model pw c.w) c.A c.env (λe s'=>cameBackBy (model pw c.w) c.A c.env (PXs c g R X) e s') ev s':=
 wpAny_mono (came ht (x.drop hf)) (λ_ _ y=>wpAny_mono y (λ_ _ z=>(z.le l).toS) λ_ _ z=>(z.le l).toS) λ_ _ y=>wpAny_mono y (λ_ _ z=>(z.le l).toS) λ_ _ z=>(z.le l).toS
theorem qBA{t it:Expr}{b:List Stmt}(ht:c.top=true){J:D→Sg→Prop}(hi:WE c it ρ σ J (X ρ))
  (h:∀d τ,J d τ→FJ c ρ (λI i ρ1 d τ1=>AS c t d ρ1 τ1 (kSeq c Rt X (I (i+1)) b) (λ_ _=>False)) N d τ)
  (hs:autoParam (∀x,pure x=foldedSetIterable it c.env x) auI):ST c (.For t it b [] p) ρ σ N Rt X:=.mk λg R own s S=>by
 refine wpAny_For (wpAny_mono (hi.go g R own s S) (λv s1 o4'=>o4'.el λg1 d τ l1 S1 dv j=>?_) λ_ _ x=>x.toS) (λx=>(hs x).symm)
 obtain⟨ds,KS,src,I,i0,iK,step,fin⟩:=h d τ j
 refine wpAny_mono (src.go g1 R own s1 v S1 dv) (λitv s2 o5'=>x4_5 o5' λIt K g2 o2 e2 l2 IT k2 S2=>?_) λ_ _ x=>x.elim
 subst e2
 refine codeAny_forLoop_any (FI c g R It ds.length I K) (λn s3 o1'=>o1'.el λi g3 own3 ρ3 σ3 o3 hn l3 S3 i3 k3=>?_)
  ds.length (.mk 0 g2 own ρ τ o2 rfl (l1.trans l2) S2 i0 k2)
 have hf3:∃vs,o3.data= .fields vs:=x2_2 (IT.fields i g3 o3 k3) λvs _ e _=>⟨vs,e⟩
 refine IT.next i g3 (own3++(It,o3)::R) σ3 o3 s3 _ _ S3.rel (iK i ρ3 σ3 i3) (List.mem_append_right _ List.mem_cons_self) k3 (qEo hn) (λd v h' o' tk hd dv k' ho' kb=>?_) λhi h' tk kb=>?_
 ·have S4:=S3.turnI (tk:=tk) hf3 ho' kb
  have hlt:=(List.getElem?_eq_some_iff.mp hd).1
  refine IT.go k' (s:= {s3 with heap:=h',toks:=tk}) ho' ?_
  have hf':∃vs,o'.data= .fields vs:=x2_2 (IT.fields _ g3 o' k') λvs _ e _=>⟨vs,e⟩
  refine wpAny_mono ((step i ρ3 σ3 d hd i3).go g3 ((It,o')::R) own3 _ v S4 dv) (λ_ s5 o7'=>o7'.el λg5 own5 ρ5 σ5 l5 S5 q=>?_) λev s5 x=>x.no
  refine wpAny_mono (q.go g5 _ own5 s5 S5) (λfl s6 p=>?_) λev s6 o8'=>o8'.el λown6 ρ6 x=>qJB ht hf' (l3.trans l5) x
  cases fl with
  |next=>
   obtain⟨g6,own6,ρ6,σ6,l6,S6,i6⟩:=p
   exact(y12 (n - 1) (qB7 hn hlt).1 (.mk (i+1) g6 own6 ρ6 σ6 o' ((qB7 hn hlt).2) ((l3.trans l5).trans l6) S6 i6 (IT.mono _ _ _ _ (l5.trans l6) k')))
  |ret v=>
   obtain⟨g6,own6,ρ6,σ6,d6,l6,S6,dv6,r6⟩:=p
   exact(.mk g6 own6 ρ6 σ6 d6 ((l3.trans l5).trans l6) (S6.drop hf') dv6 r6)
  |brk=>exact p.elim
  |cont=>exact p.elim
 ·subst hi
  exact wpAny_execs_nil (.mk g3 own3 ρ3 σ3 l3 (S3.endI hf3 kb) (fin ρ3 σ3 i3))
end
def Kp(M:Model)(h:Heap)(v:Value):Prop:=∃k,(k=Keeper.frame∨k=Keeper.machine∨k=Keeper.boundFrame)∧Looks M h (keeperOf v) k
def Kept(c:Cx)(fd:D):Prop:=∀(g h:Heap) v,Wd c.w g→DV g fd v→Le g h→Kp (model pw c.w) h v
theorem qAD{i:String}:Kept c (.blt i):=λg h v _ dv _=>by refine dv.on λ_=>?_;exact(y12 .machine (.inr (.inl rfl)) (Looks.of_pure rfl))
theorem qCZ{i:String}:Kept c (.typ i):=λg h v _ dv _=>by refine dv.on λ_=>?_;exact(y12 .machine (.inr (.inl rfl)) (Looks.of_pure rfl))
theorem qAJ(e:true=keepIn (KF c.w.params) (.ref a)):Kept c (.obj a):=λg h v wd dv k=>by
 refine dv.on λ_=>?_
 exact keeps_K e.symm h (wd.K.keeps k)
def PG.Ar(Z:Prop)(c:Cx)(g:Heap)(R:Pv)(ρ:Ro)(own:Pv)(σ:Sg)(fd:D)(first:List D)(fx:Value × List Value)(s':Shared):Prop:=∀(g':Heap) (l:Le g g') (S:St c g' R ρ σ own s') (d:DV g' fd fx.1) (ds:DVs g' first fx.2),Z
@[irreducible] def PG (c:Cx) (g:Heap) (R:Pv) (ρ:Ro) (own:Pv) (σ:Sg) (fd:D) (first:List D) (fx:Value × List Value) (s':Shared):Prop:=∀Z,PG.Ar Z c g R ρ own σ fd first fx s'→Z
theorem PG.mk{fd:D}{first:List D}{fx:Value × List Value}:PG.Ar (PG c g R ρ own σ fd first fx s') c g R ρ own σ fd first fx s':=by delta PG;exact λg' l S d ds _ k=>k g' l S d ds
theorem PG.el{fd:D}{first:List D}{fx:Value × List Value}(h:PG c g R ρ own σ fd first fx s'):PG.Ar Z c g R ρ own σ fd first fx s'→Z:=by delta PG at h;exact h Z
def GM.Ar(c:Cx)(d:D)(name:Str)(ρ:Ro)(σ:Sg)(fd:D)(first:List D):Prop:=∀g R own s v pl,St c g R ρ σ own s→DV g d v→wpAny (model pw c.w) c.A (getMethod v name pl) (PG c g R ρ own σ fd first) (λ_ _=>False) s
@[irreducible] def GM (c:Cx) (d:D) (name:Str) (ρ:Ro) (σ:Sg) (fd:D) (first:List D):Prop:=GM.Ar c d name ρ σ fd first
theorem GM.mk{name:Str}{fd:D}{first:List D}(h:GM.Ar c d name ρ σ fd first):GM c d name ρ σ fd first:=by delta GM;exact h
theorem GM.go{name:Str}{fd:D}{first:List D}(h:GM c d name ρ σ fd first):GM.Ar c d name ρ σ fd first:=by delta GM at h;exact h
def CallP.Ar(Z:Prop)(c:Cx)(X:Addr→Sg→Prop)(ρ:Ro)(p:Pos)(es:List Expr)(Q:D→Sg→Prop)(fd:D)(τ:Sg):Prop:=∀(kp:Kept c fd) (h:WEs c p es ρ τ (kOC c X ρ fd Q) X),Z
@[irreducible] def CallP (c:Cx) (X:Addr→Sg→Prop) (ρ:Ro) (p:Pos) (es:List Expr) (Q:D→Sg→Prop) (fd:D) (τ:Sg):Prop:=∀Z,CallP.Ar Z c X ρ p es Q fd τ→Z
theorem CallP.mk{fd:D}:CallP.Ar (CallP c X ρ p es Q fd τ) c X ρ p es Q fd τ:=by delta CallP;exact λkp h _ k=>k kp h
theorem CallP.el{fd:D}(hh:CallP c X ρ p es Q fd τ):CallP.Ar Z c X ρ p es Q fd τ→Z:=by delta CallP at hh;exact hh Z
def Call0P.Ar(Z:Prop)(c:Cx)(X:Addr→Sg→Prop)(ρ:Ro)(Q:D→Sg→Prop)(fd:D)(τ:Sg):Prop:=∀(kp:Kept c fd) (h:OC c fd [] ρ τ Q X),Z
@[irreducible] def Call0P (c:Cx) (X:Addr→Sg→Prop) (ρ:Ro) (Q:D→Sg→Prop) (fd:D) (τ:Sg):Prop:=∀Z,Call0P.Ar Z c X ρ Q fd τ→Z
theorem Call0P.mk{fd:D}:Call0P.Ar (Call0P c X ρ Q fd τ) c X ρ Q fd τ:=by delta Call0P;exact λkp h _ k=>k kp h
theorem Call0P.el{fd:D}(hh:Call0P c X ρ Q fd τ):Call0P.Ar Z c X ρ Q fd τ→Z:=by delta Call0P at hh;exact hh Z
def MethP.Ar(Z:Prop)(c:Cx)(X:Addr→Sg→Prop)(ρ:Ro)(name:Str)(p:Pos)(es:List Expr)(Q:D→Sg→Prop)(d:D)(τ:Sg):Prop:=∀(fd:D) (first:List D) (gm:GM c d name ρ τ fd first) (kp:Kept c fd) (h:WEs c p es ρ τ (kOCm c X ρ fd first Q) X),Z
@[irreducible] def MethP (c:Cx) (X:Addr→Sg→Prop) (ρ:Ro) (name:Str) (p:Pos) (es:List Expr) (Q:D→Sg→Prop) (d:D) (τ:Sg):Prop:=∀Z,MethP.Ar Z c X ρ name p es Q d τ→Z
theorem MethP.mk{name:Str}:MethP.Ar (MethP c X ρ name p es Q d τ) c X ρ name p es Q d τ:=by delta MethP;exact λfd first gm kp h _ k=>k fd first gm kp h
theorem MethP.el{name:Str}(hh:MethP c X ρ name p es Q d τ):MethP.Ar Z c X ρ name p es Q d τ→Z:=by delta MethP at hh;exact hh Z
def Meth0P.Ar(Z:Prop)(c:Cx)(X:Addr→Sg→Prop)(ρ:Ro)(name:Str)(Q:D→Sg→Prop)(d:D)(τ:Sg):Prop:=∀(fd:D) (first:List D) (gm:GM c d name ρ τ fd first) (kp:Kept c fd) (h:OC c fd first ρ τ Q X),Z
@[irreducible] def Meth0P (c:Cx) (X:Addr→Sg→Prop) (ρ:Ro) (name:Str) (Q:D→Sg→Prop) (d:D) (τ:Sg):Prop:=∀Z,Meth0P.Ar Z c X ρ name Q d τ→Z
theorem Meth0P.mk{name:Str}:Meth0P.Ar (Meth0P c X ρ name Q d τ) c X ρ name Q d τ:=by delta Meth0P;exact λfd first gm kp h _ k=>k fd first gm kp h
theorem Meth0P.el{name:Str}(hh:Meth0P c X ρ name Q d τ):Meth0P.Ar Z c X ρ name Q d τ→Z:=by delta Meth0P at hh;exact hh Z
theorem rmD{d lv':Nat}(h:lv≤lv')(k:d+lv' < 900):d+lv < 900:=Nat.lt_of_le_of_lt (Nat.add_le_add_left h d) k
theorem rmU{u lv':Nat}(h:lv≤lv')(k:u+10 * lv'+300 < cLine):u+10 * lv+300 < cLine:=Nat.lt_of_le_of_lt (Nat.add_le_add_right (Nat.add_le_add_left (Nat.mul_le_mul_left 10 h) u) 300) k
section
theorem WE_Call{fn:Expr}{rest:List Expr}(h:WE c fn ρ σ (CallP c X ρ p (e::rest) Q) X)(hk:autoParam (true=qDr fn (e::rest)) auR):WE c (.Call fn (e::rest) [] p) ρ σ Q X:=.mk λg R own s S=>
 Call_ (h.use S (λg1 fd τ v s1 l1 S1 dv o1'=>o1'.el λkp q=>by
  have hw:=q.use (P:=λvs s2=>Kp (model pw c.w) s2.heap v∧wpAny (model pw c.w) c.A (call v ([]++vs)) (PE c g R ρ own Q) (PX c g R ρ own X) s2) (E:=PX c g R ρ own X) S1
   (λg2 ds υ vs s2 l2 S2 dvs q2=>⟨kp g2 s2.heap v S2.wd (dv.mono l2) S2.rel.keep,wpAny_mono (q2.go g2 R own s2 v vs S2 (dv.mono l2) dvs) (λ_ _ x=>(x.le l2).le l1) λ_ _ x=>(x.le l2).le l1⟩) λ_ _ x=>x.le l1
  rw[qAy (qBi hk).1]at hw ⊢
  exact callWith_of (P:=λh=>Kp (model pw c.w) h v) (by show((false || (backTo p (starEach rest c.env)).any (·.1)) || false)=false;rw[qCN (qBi hk).2];rfl) (λh x=>x) (evalArgs_plain hw)) λ_ _ x=>x) (qBj hk)
theorem WE_Call0{fn:Expr}(h:WE c fn ρ σ (Call0P c X ρ Q) X)(hk:autoParam (true=qDr fn []) auR):WE c (.Call fn [] [] p) ρ σ Q X:=.mk λg R own s S=>
 Call_ (h.use S (λg1 fd τ v s1 l1 S1 dv o2'=>o2'.el λkp q=>
  callWith_of (P:=λh=>Kp (model pw c.w) h v) rfl (λh x=>x) (evalArgs_nil3 ⟨kp g1 s1.heap v S1.wd dv S1.rel.keep,wpAny_mono (q.go g1 R own s1 v [] S1 dv .nil) (λ_ _ x=>x.le l1) λ_ _ x=>x.le l1⟩)) λ_ _ x=>x) (qBj hk)
theorem WE_Meth{o:Expr}{name:Str}{apos:Pos}{rest:List Expr}{pl:Sem Bool}
  (h:WE c o ρ σ (MethP c X ρ name p (e::rest) Q) X)
  (hc:autoParam (eval (.Call (.Attribute o name apos) (e::rest) [] p) c.env=(do
   let ov ←eval o c.env
   standAt apos.atName
   let(f,first) ←holding [ov] (getMethod ov name pl)
   callWith p f first (backTo p (starEach (e::rest) c.env)) [])) auR)
  (he:autoParam (false=qC6 e) auR)(hp:autoParam (false=rest.any qC6) auR):WE c (.Call (.Attribute o name apos) (e::rest) [] p) ρ σ Q X:=.mk λg R own s S=>
 MethodCall_ (h.use S (λg1 d τ v s1 l1 S1 dv o3'=>o3'.el λfd first gm kp q=>wpAny_mono (gm.go g1 R own s1 v pl S1 dv) (λfx s2 o4'=>o4'.el λg2 l2 S2 df dfs=>by
  have hw:=q.use (P:=λvs s3=>Kp (model pw c.w) s3.heap fx.1∧wpAny (model pw c.w) c.A (call fx.1 (fx.2++vs)) (PE c g R ρ own Q) (PX c g R ρ own X) s3) (E:=PX c g R ρ own X) S2
   (λg3 ds υ vs s3 l3 S3 dvs q3=>⟨kp g3 s3.heap fx.1 S3.wd (df.mono l3) S3.rel.keep,wpAny_mono (q3.go g3 R own s3 fx.1 (fx.2++vs) S3 (df.mono l3) ((dfs.mono l3).append dvs)) (λ_ _ x=>((x.le l3).le l2).le l1) λ_ _ x=>((x.le l3).le l2).le l1⟩) λ_ _ x=>(x.le l2).le l1
  rw[qAy he]at hw ⊢
  exact callWith_of (P:=λh=>Kp (model pw c.w) h fx.1) (by show((false || (backTo p (starEach rest c.env)).any (·.1)) || false)=false;rw[qCN hp];rfl) (λh x=>x) (evalArgs_plain hw)) λ_ _ x=>x.elim) λ_ _ x=>x) hc
theorem WE_Meth0{o:Expr}{name:Str}{apos:Pos}{pl:Sem Bool}
  (h:WE c o ρ σ (Meth0P c X ρ name Q) X)
  (hc:autoParam (eval (.Call (.Attribute o name apos) [] [] p) c.env=(do
   let ov ←eval o c.env
   standAt apos.atName
   let(f,first) ←holding [ov] (getMethod ov name pl)
   callWith p f first (backTo p (starEach [] c.env)) [])) auR):WE c (.Call (.Attribute o name apos) [] [] p) ρ σ Q X:=.mk λg R own s S=>
 MethodCall_ (h.use S (λg1 d τ v s1 l1 S1 dv o5'=>o5'.el λfd first gm kp q=>wpAny_mono (gm.go g1 R own s1 v pl S1 dv) (λfx s2 o6'=>o6'.el λg2 l2 S2 df dfs=>
  callWith_of (P:=λh=>Kp (model pw c.w) h fx.1) rfl (λh x=>x) (evalArgs_nil3 ⟨kp g2 s2.heap fx.1 S2.wd df S2.rel.keep,by
   rw[List.append_nil]
   exact wpAny_mono (q.go g2 R own s2 fx.1 fx.2 S2 df dfs) (λ_ _ x=>(x.le l2).le l1) λ_ _ x=>(x.le l2).le l1⟩)) λ_ _ x=>x.elim) λ_ _ x=>x) hc
def CPr.Ar(Z:Prop)(w:World)(os:OsState)(g:Heap)(R:Pv)(Q:D→Sg→Prop)(v:Value)(s':Shared):Prop:=∀(g':Heap) (d:D) (σ':Sg) (l:Le g g') (r:Rel w g' R σ' s'.heap) (hg:s'.gens= #[]) (ho:s'.os=os) (dv:DV g' d v) (q:Q d σ'),Z
@[irreducible] def CPr (w:World) (os:OsState) (g:Heap) (R:Pv) (Q:D→Sg→Prop) (v:Value) (s':Shared):Prop:=∀Z,CPr.Ar Z w os g R Q v s'→Z
theorem CPr.mk:CPr.Ar (CPr w os g R Q v s') w os g R Q v s':=by delta CPr;exact λg' d σ' l r hg ho dv q _ k=>k g' d σ' l r hg ho dv q
theorem CPr.el(h:CPr w os g R Q v s'):CPr.Ar Z w os g R Q v s'→Z:=by delta CPr at h;exact h Z
def CPx.Ar(Z:Prop)(w:World)(os:OsState)(g:Heap)(R:Pv)(X:Addr→Sg→Prop)(ev:Value)(s':Shared):Prop:=∀(e C:Addr) (g':Heap) (σ':Sg) (fl:Option (Option Addr)) (h:ev= .ref e) (l:Le g g') (r:Rel w g' R σ' s'.heap) (hg:s'.gens= #[]) (ho:s'.os=os) (F:FlyAt g' R σ' fl e C s'.heap) (nf:∀F,fl≠some (some F)) (x:X C σ'),Z
@[irreducible] def CPx (w:World) (os:OsState) (g:Heap) (R:Pv) (X:Addr→Sg→Prop) (ev:Value) (s':Shared):Prop:=∀Z,CPx.Ar Z w os g R X ev s'→Z
theorem CPx.mk{ev:Value}:CPx.Ar (CPx w os g R X ev s') w os g R X ev s':=by delta CPx;exact λe C g' σ' fl h l r hg ho F nf x _ k=>k e C g' σ' fl h l r hg ho F nf x
theorem CPx.el{ev:Value}(hh:CPx w os g R X ev s'):CPx.Ar Z w os g R X ev s'→Z:=by delta CPx at hh;exact hh Z
def CallPost(w:World)(os:OsState)(g:Heap)(R:Pv)(Q:D→Sg→Prop)(X:Addr→Sg→Prop)(r:Result)(s':Shared):Prop:=match r with
 | .ok (.ret v)=>CPr w os g R Q v s'
 | .error ev=>CPx w os g R X ev s'
 |_=>False
theorem CallPost.imp{w':World}{os':OsState}{g':Heap}{R':Pv}{Q':D→Sg→Prop}{X':Addr→Sg→Prop}{r:Result}(p:CallPost w os g R Q X r s)(a:∀v,CPr w os g R Q v s→CPr w' os' g' R' Q' v s')(b:∀v,CPx w os g R X v s→CPx w' os' g' R' X' v s'):CallPost w' os' g' R' Q' X' r s':=by
 cases r with
 |error ev=>exact b ev p
 |ok fl=>cases fl with
  |ret v=>exact a v p
  |_=>exact p.elim
structure Room(A:Around)(fr:List Env)(lv:Nat):Prop where
 hh:A.handled=none
 hf:A.frames=some fr
 hd:A.depth+lv < 900
 hu:A.units+10 * lv+300 < cLine
 gd:A.guards=some []
noncomputable def CAL(w:World)(os:OsState)(lv:Nat)(f:Value→Prop)(as:List D)(σ:Sg)(Q:D→Sg→Prop)(X:Addr→Sg→Prop):Prop:=
 ∀A fr g R s vf vs,Room A fr lv→FrOK fr R→Rel w g R σ s.heap→Wd w g→s.gens= #[]→s.os=os→f vf→DVs g as vs→codeAny (model pw w) A (.call vf ⟨vs,[]⟩) (CallPost w os g R Q X) s
abbrev FN(w:World)(os:OsState)(lv:Nat)(a:Addr)(as:List D)(σ:Sg)(Q:D→Sg→Prop)(X:Addr→Sg→Prop):Prop:=CAL w os lv (λv=>v= .ref a) as σ Q X
theorem St.after{g':Heap}{σ':Sg}(S:St c g R ρ σ own s)(l:Le g g')(r:Rel c.w g' (own++R) σ' s'.heap)(hg:s'.gens= #[])(ho:s'.os=c.os):St c g' R ρ σ' own s':=
 ⟨S.ok,r,S.wd.mono l,hg,ho,S.locs.mono l,S.frs⟩
theorem St.room(S:St c g R ρ σ own s)(hb:c.bare=true)(hl:lv≤c.lv):Room c.A c.fr lv:=⟨S.ok.hh hb,S.ok.hf,rmD hl S.ok.hd,rmU hl S.ok.hu,S.ok.gd⟩
theorem St.px(S:St c g R ρ σ own s)(p:CPx c.w c.os g (own++R) X v s'):PX c g R ρ own X v s':=by
 obtain⟨e,C,g',σ',fl,rfl,l,r,hg,ho,F,nf,x⟩:=p
 exact(.mk e C g' σ' rfl l (S.after l r hg ho) (.mk fl F (λF q=>absurd q (nf F))) x)
theorem St.pe(S:St c g R ρ σ own s)(p:CPr c.w c.os g (own++R) Q v s'):PE c g R ρ own Q v s':=p.el λg' d σ' l r hg ho dv q=>(.mk g' d σ' l (S.after l r hg ho) dv q)
theorem St.calls{f:Value}(S:St c g R ρ σ own s)(h:codeAny (model pw c.w) c.A (.call f ⟨vs,[]⟩) (CallPost c.w c.os g (own++R) Q X) s):wpAny (model pw c.w) c.A (call f vs) (PE c g R ρ own Q) (PX c g R ρ own X) s:=
 wpAny_call (codeAny_mono h λr s' p=>by
  cases r with
  |error ev=>exact S.px p
  |ok fl=>cases fl with
   |ret v=>exact S.pe p
   |_=>exact p.elim)
theorem qA1(hb:c.bare=true)(hl:lv≤c.lv)(h:FN c.w c.os lv a as σ Q X):OC c (.obj a) as ρ σ Q X:=.mk λg R own s vf vs S dv dvs=>by
 refine dv.on λ_=>?_
 exact S.calls (h c.A c.fr g (own++R) s _ vs (S.room hb hl) S.frs S.rel S.wd S.gens S.os rfl dvs)
end
theorem Rel.addPriv{l:Pv}(x:Rel w g R σ h)(k:Le h h')(nd:(l.map (·.1)).Nodup)(hl:∀p∈l,h.get? p.1=none∧h'.get? p.1=some p.2):Rel w g (l++R) σ h':=by
 have r:=x.ext k
 refine⟨r.keep,λp hp=>?_,?_,r.rep,λa o e b hb=>⟨(r.off a o e b hb).1,λq=>?_⟩,r.apart⟩
 ·rcases List.mem_append.mp hp with hp|hp
  ·exact⟨(x.taken (hl p hp).1).1,.inl (hl p hp).2⟩
  ·exact r.priv p hp
 ·rw[List.map_append,List.nodup_append]
  refine(y03 nd r.nodup (λa ha b hb e=>?_))
  subst e
  obtain⟨p,hp,rfl⟩:=List.mem_map.mp ha
  exact(x.taken (hl p hp).1).2.1 hb
 ·rw[List.map_append]at q
  rcases List.mem_append.mp q with q|q
  ·obtain⟨p,hp,rfl⟩:=List.mem_map.mp q
   exact(x.taken (hl p hp).1).2.2 a o e hb
  ·exact(r.off a o e b hb).2 q
theorem qJ8{kf:Str→Option NameKind}{bs:List (Str × Value)}{m:Str→Option Value}(h:x∉bs.map (·.1)):bindL kf bs m x=m x:=by
 induction bs generalizing m with
 |nil=>rfl
 |cons p r ih=>
  cases p with|mk n v=>
  have h':x≠n∧x∉r.map (·.1):=by simpa using h
  unfold bindL
  rw[ih h'.2]
  split
  ·exact if_neg h'.1
  ·rfl
theorem qJ9{kf:Str→Option NameKind}{bs:List (Str × Value)}{m:Str→Option Value}(h:x∉bs.map (·.1)):bindC kf bs m x=m x:=by
 induction bs generalizing m with
 |nil=>rfl
 |cons p r ih=>
  cases p with|mk n v=>
  have h':x≠n∧x∉r.map (·.1):=by simpa using h
  unfold bindC
  rw[ih h'.2]
  split
  ·rfl
  ·exact if_neg h'.1
theorem qBc{ns:List Str}(h:x∈(ns.zip vs).map (·.1)):x∈ns:=by
 induction ns generalizing vs with
 |nil=>cases h
 |cons n ns ih=>
  cases vs with
  |nil=>cases h
  |cons v vs=>exact(List.mem_cons.mp h).elim (λe=>List.mem_cons.mpr (.inl e)) λh=>List.mem_cons_of_mem _ (ih h)
theorem qJ7{kf:Str→Option NameKind}{ns:List Str}(m cm:Str→Option Value)(nd:ns.Nodup)(D:DVs g ds vs)(h:(ns.zip ds).lookup x=some d):
  ∃v,DV g d v∧(kf x=some .local→bindL kf (ns.zip vs) m x=some v)∧(kf x≠some .local→bindC kf (ns.zip vs) cm x=some v):=by
 induction ns generalizing ds vs m cm with
 |nil=>cases h
 |cons n ns ih=>
  cases ds with
  |nil=>cases h
  |cons d0 ds=>
   refine D.on λv0 vs dv dvs=>?_
   rw[List.zip_cons_cons,List.lookup_cons]at h
   obtain⟨n1,n2⟩:=List.nodup_cons.mp nd
   by_cases k:x=n
   ·subst k
    rw[beq_self_eq_true]at h
    injection h with h;subst h
    refine(y13 v0 dv (λhl=>?_) (λhl=>?_))
    ·rw[List.zip_cons_cons];unfold bindL
     rw[qJ8 (λq=>n1 (qBc q)),if_pos hl,if_pos rfl]
    ·rw[List.zip_cons_cons];unfold bindC
     rw[qJ9 (λq=>n1 (qBc q)),if_neg hl,if_pos rfl]
   ·rw[show(x==n)=false from beq_eq_false_iff_ne.mpr k]at h
    obtain⟨v,dv',hl,hc⟩:=ih (if kf n=some .local then λy=>if y=n then some v0 else m y else m) (if kf n=some .local then cm else λy=>if y=n then some v0 else cm y) n2 dvs h
    exact(y13 v dv' (λe=>by rw[List.zip_cons_cons];unfold bindL;exact hl e) (λe=>by rw[List.zip_cons_cons];unfold bindC;exact hc e))
theorem qI4{cm:Str→Option Value}{cs:List (Str × Addr)}(H:∀n c,(n,c)∈cs→h.IsCell c (cm n)):∃l:Pv,l.map (·.1)=cs.map (·.2)∧(∀p∈l,h.get? p.1=some p.2)∧∀n c,(n,c)∈cs→∃o,(c,o)∈l∧o.data= .cell (cm n):=by
 induction cs with
 |nil=>exact y13 [] rfl (λ_ hp=>absurd hp List.not_mem_nil) λ_ _ hm=>absurd hm List.not_mem_nil
 |cons p cs ih=>
  cases p with|mk n c=>
  obtain⟨o,ho,hd⟩:=H n c List.mem_cons_self
  obtain⟨l,e,k,r⟩:=ih λn c hm=>H n c (List.mem_cons_of_mem _ hm)
  refine(y13 ((c,o)::l) (by rw[List.map_cons,List.map_cons,e]) (λp hp=>?_) (λn' c' hm=>?_))
  ·rcases List.mem_cons.mp hp with z|hp
   ·rw[z];exact ho
   ·exact k p hp
  ·rcases List.mem_cons.mp hm with q|hm
   ·rw[(Prod.mk.inj q).1,(Prod.mk.inj q).2]
    exact(y12 o List.mem_cons_self hd)
   ·obtain⟨o',ho',hd'⟩:=r n' c' hm
    exact(y12 o' (List.mem_cons_of_mem _ ho') hd')
noncomputable abbrev fdOf (st:Stmt) (name qual:Str) (dV pm:Value) (cd:Addr):FuncData:=fnOf name qual (fnArgs st) (qBs st) (qA3 st) dV .none .none pm none (.ref cd) .none
noncomputable def cxOf(fd:FuncData)(a:Addr)(w:World)(os:OsState)(lv:Nat)(A:Around)(fr:List Env)(L:Addr):Cx:=
 {w:=w,A:=A.deeper (callEnvC fd L a),fr:=callEnvC fd L a::fr,env:=callEnvC fd L a,top:=true,bare:=true,lv:=lv,os:=os}
section
variable {fr:List Env}{s1:Shared}
noncomputable def cxG(b:Bool)(fd:FuncData)(a:Addr)(w:World)(os:OsState)(lv:Nat)(A:Around)(fr:List Env)(L:Addr):Cx:=
 {w:=w,A:=A.deeper (callEnvC fd L a),fr:=callEnvC fd L a::fr,env:=callEnvC fd L a,top:=true,bare:=b,lv:=lv,os:=os}
theorem rmE{d:Nat}(h:d+(lv+1) < n):d+1+lv < n:=by omega
theorem rmF{d:Nat}(h:d+10 * (lv+1)+300 < n):d+3+10 * lv+300 < n:=by omega
theorem rmG{d:Nat}(h:d+10 * (lv+1)+300 < n):d+1+10 * lv+300 < n:=by omega
theorem St.callC{b:Bool}{fd:FuncData}{ns:List Str}{as':List D}{vs':List Value}(hh:b=true→A.handled=none)(hf:A.frames=some fr)(hd:A.depth+(lv+1) < 900)(hu:A.units+10 * (lv+1)+300 < cLine)(gd:A.guards=some [])
  (fo:FrOK fr R)(rel:Rel w g R σ s.heap)(wd:Wd w g)(hgs:s.gens= #[])(hos:s.os=os)(eg:fd.globals=mainGlobals)(eb:fd.builtins=builtinsNs)(hk:fd.scope.kind= .function)(hnd:ns.Nodup)
  (hkind:∀x∈ns,fd.scope.names.lookup x=some .local∨fd.scope.names.lookup x=some .cell)(hcn:((cellsFrom 0 fd.scope.names []).map (·.1)).Nodup)(dvs':DVs g as' vs')
  (x:InCallC s s.heap.objs.size (bindL (callEnvC fd s.heap.objs.size a).kindOf (ns.zip vs') λ_=>none) (callEnvC fd s.heap.objs.size a).cells (bindC (callEnvC fd s.heap.objs.size a).kindOf (ns.zip vs') λ_=>none) s1):
  ∃own,St (cxG b fd a w os lv A fr s.heap.objs.size) g R (ns.zip as') σ own s1:=by
 have kl:=x.toInCall.keep
 obtain⟨h1,tk,rfl,_⟩:=x.done
 have cnames:((cellsFrom (s.heap.objs.size+1) fd.scope.names []).map (·.1)).Nodup:=cellsFrom_names fd.scope.names 0 (s.heap.objs.size+1) [] [] rfl▸hcn
 obtain⟨oL,hoL,hnL⟩:=ns_obj x.toInCall.ns
 obtain⟨cl,ck,cg,cat⟩:=qI4 (cs:=cellsFrom (s.heap.objs.size+1) fd.scope.names []) λn c hm=>x.cell n c (lookup_of_mem_nodup cnames hm)
 have fresh:∀b:Addr,s.heap.objs.size≤b→s.heap.get? b=none:=λb hb=>qAU λo q=>Nat.lt_irrefl _ (Nat.lt_of_lt_of_le (Heap.lt_size q) hb)
 have above:∀p∈cl,s.heap.objs.size < p.1:=λp hp=>by
  have:p.1∈cl.map (·.1):=List.mem_map_of_mem hp
  rw[ck]at this
  obtain⟨q,hq,e⟩:=List.mem_map.mp this
  rw[←e];exact x.above q.1 q.2 hq
 have rel1:Rel w g (((s.heap.objs.size,oL)::cl)++R) σ h1:=rel.addPriv kl (by
  rw[List.map_cons,List.nodup_cons]
  refine⟨λq=>?_,?_⟩
  ·obtain⟨p,hp,e⟩:=List.mem_map.mp q
   exact Nat.lt_irrefl _ (e▸above p hp)
  ·rw[ck];exact List.pairwise_map.mpr x.apart) λp hp=>by
   rcases List.mem_cons.mp hp with rfl|hp
   ·exact⟨qAM _,hoL⟩
   ·exact⟨fresh _ (Nat.le_of_lt (above p hp)),cg p hp⟩
 refine⟨(s.heap.objs.size,oL)::cl,⟨hh,?_,rmE hd,rmF hu,eg,eb,hk,λ_=>⟨fr,rfl⟩,gd⟩,rel1,wd,hgs,hos,⟨(y23 oL _ List.mem_cons_self hnL (λy d e hy=>?_)),λy d e=>?_,λ_ y hy=>?_,λy z b hy hz e1 e2=>?_,λy z b hy hz e1 e2=>?_⟩,λe he=>?_⟩
 ·show A.frames.map _=_;rw[hf];rfl
 ·obtain⟨v,dv,hl,_⟩:=qJ7 (kf:=(callEnvC fd s.heap.objs.size a).kindOf) (λ_=>none) (λ_=>none) hnd dvs' e
  exact(y12 v (hl hy) dv)
 ·obtain⟨v,dv,_,hc⟩:=qJ7 (kf:=(callEnvC fd s.heap.objs.size a).kindOf) (λ_=>none) (λ_=>none) hnd dvs' e
  have hy:y∈ns:=by
   have:=mem_of_lookup e
   exact(List.of_mem_zip this).1
  rcases hkind y hy with q|q
  ·exact .inl q
  ·refine .inr ⟨.inl q,?_⟩
   have q':=cellsFrom_some (x:=y) fd.scope.names (s.heap.objs.size+1) [] (.inl q)
   obtain⟨b,hb⟩:=Option.isSome_iff_exists.mp q'
   obtain⟨o,ho,hd⟩:=cat y b (mem_of_lookup hb)
   refine(y34 b o v (Cx.cellAt_of hb) (List.mem_append_left _ (List.mem_cons_of_mem _ ho)) ?_ dv)
   rw[hd];exact congrArg _ (hc (by rw[show(callEnvC fd s.heap.objs.size a).kindOf y=some .cell from q];exact λz=>by cases z))
 ·have q':=cellsFrom_some (x:=y) fd.scope.names (s.heap.objs.size+1) [] (.inl hy)
  obtain⟨b,hb⟩:=Option.isSome_iff_exists.mp q'
  obtain⟨o,ho,hd⟩:=cat y b (mem_of_lookup hb)
  exact(y33 b o _ hb (List.mem_cons_of_mem _ ho) hd)
 ·rw[Cx.cellAt_none rfl]at e1
  have:=name_of_addr x.apart (mem_of_lookup e1) (mem_of_lookup e2)
  subst this
  rcases hy with hy| ⟨_,hy⟩
  ·rw[hy]at hz;cases hz
  ·have e1:(cellsFrom _ fd.scope.names []).lookup y=some b:=e1
   have hy:(cellsFrom _ fd.scope.names []).lookup y=none:=hy
   rw[hy]at e1;cases e1
 ·exact name_of_addr x.apart (mem_of_lookup e1) (mem_of_lookup e2)
 ·rcases List.mem_cons.mp he with rfl|he
  ·refine⟨(by show fd.scope.kind≠.module;rw[hk];exact λz=>by cases z),s.heap.objs.size,oL,rfl,List.mem_append_left _ List.mem_cons_self,?_⟩
   obtain⟨es,ep,q,_⟩:=hnL;exact(y21 es ep q)
  ·obtain⟨k,L,o,hf,hm,r⟩:=fo e he
   exact⟨k,L,o,hf,List.mem_append_right _ hm,r⟩
theorem PX.leaves{ev:Value}{s2:Shared}(ht:c.top=true)(p:PX c g R ρ own X ev s2):
  wpAny (model pw c.w) c.A (leaving c.env ev) (λ_ s''=>CallPost c.w c.os g R Q X (.error ev) s'') (λe' s''=>CallPost c.w c.os g R Q X (.error e') s'') s2:=by
 refine p.el λe C g2 σ2 z l2 S2 F q=>?_
 subst z
 obtain⟨rest,L',hfr,hf,hA⟩:=S2.frame ht
 refine wpAny_bind (qC4 S2.rel (by rw[←hf];exact F) (outer:=rest) (by have:=S2.frs;rw[hfr]at this;exact this) hA hf λh' r F'=>?_)
 refine qBN (s:= {s2 with heap:=h'}) (fr:=none) r F' λh2 r2 F2=>?_
 have sl:=List.sublist_append_right own R
 exact(.mk e C g2 σ2 (some none) rfl l2 (r2.sublist sl) S2.gens S2.os (F2.sublist sl) (λF z=>(nomatch (Option.some.inj z:(none:Option Addr)=some F))) q)
theorem PF.leaves{fl:Flow}{s2:Shared}(p:PF c g R (λ_ τ=>Q .none τ) Q fl s2):
  CallPost c.w c.os g R Q X (.ok (.ret (match fl with| .ret v=>v|_=>.none))) s2:=by
 cases fl with
 |next=>
  obtain⟨g2,own2,ρ2,σ2,l2,S2,q⟩:=p
  exact(.mk g2 .none σ2 l2 (S2.rel.sublist (List.sublist_append_right own2 R)) S2.gens S2.os .none q)
 |ret v=>
  obtain⟨g2,own2,ρ2,σ2,d,l2,S2,dv,q⟩:=p
  exact(.mk g2 d σ2 l2 (S2.rel.sublist (List.sublist_append_right own2 R)) S2.gens S2.os dv q)
 |brk=>exact p.elim
 |cont=>exact p.elim
end
theorem qDL{st:Stmt}{name qual:Str}{dV pm:Value}{cd:Addr}(ns:List Str)
  (hK:(KF w.params).lookup a=some (fnO st name qual dV pm cd))(hcd:(cd,qual)∈codeT)
  (hb:∀(g:Heap) (s:Shared) vs,Wd w g→Le g s.heap→DVs g as vs→∃as' vs',DVs g as' vs'∧BindsTo s (fdOf st name qual dV pm cd) ⟨vs,[]⟩ (ns.zip vs')∧
   ∀A fr L,STs (cxOf (fdOf st name qual dV pm cd) a w os lv A fr L) (qBs st) (ns.zip as') σ (λ_ τ=>Q .none τ) Q (λ_=>X))
  (hnd:ns.Nodup:=by decide+kernel)(hkind:∀x∈ns,(qA3 st).names.lookup x=some .local∨(qA3 st).names.lookup x=some .cell:=by decide+kernel)
  (hcn:((cellsFrom 0 (qA3 st).names []).map (·.1)).Nodup:=by decide+kernel)
  (hk:autoParam (.function=(qA3 st).kind) auR)(hco:autoParam (false=(qA3 st).isCoroutine) auR)(hgen:autoParam (false=(qA3 st).isGenerator) auR):FN w os (lv+1) a as σ Q X:=by
 intro A fr g R s vf vs rm fo rel wd hgs hos e dvs
 subst e
 obtain⟨as',vs',dvs',hbind,body⟩:=hb g s vs wd rel.keep dvs
 have wds:=wd.mono rel.keep
 refine codeAny_call_function (fd:=fdOf st name qual dV pm cd) (Nat.lt_of_lt_of_le (Nat.lt_of_le_of_lt (Nat.le_add_right _ _) rm.hd) (by decide)) (wds.K _ _ hK) rfl hco.symm hgen.symm rfl (wds.code _ hcd) (hbind _ _ _ _ ?_)
 refine wpAny_newFunctionEnv_cells hk.symm (λx hx=>?_) λenv' he s1 x=>?_
 ·have hx':x.1∈ns:=qBc (List.mem_map_of_mem hx)
  exact(hkind _ hx').imp id λe=>⟨e,cellsFrom_some _ _ _ (.inl e)⟩
 subst he
 refine⟨wds.lim.keeps x.toInCall.keep,codeAny_func ?_⟩
 refine(St.callC (b:=true) (λ_=>rm.hh) rm.hf rm.hd rm.hu rm.gd fo rel wd hgs hos rfl rfl hk.symm hnd hkind hcn dvs' x).elim λown S=>?_
 exact wpAny_mono ((body A fr s.heap.objs.size).go g R _ _ S) (λfl s2 p=>by cases fl <;> exact PF.leaves p) λev s2 p9=>p9.el λ_ _ p=>p.leaves rfl
section
variable {a b:Int}{y:Str}{u v:Array UInt8}{p q:Bool}
theorem O_add(h:Q (.int (a+b)) σ):O2 c (binaryOp .Add) (.int a) (.int b) ρ σ Q X:=.mk λg R own s va vb S da db=>by refine da.on λ_=>?_;refine db.on λ_=>?_;exact PyProof.Rows.add_int (S.val (.int _ _) h)
theorem O_sub(h:Q (.int (a - b)) σ):O2 c (binaryOp .Sub) (.int a) (.int b) ρ σ Q X:=.mk λg R own s va vb S da db=>by refine da.on λ_=>?_;refine db.on λ_=>?_;exact PyProof.Rows.sub_int (S.val (.int _ _) h)
theorem qEF(hm:IntMulOk a b)(h:Q (.int (a * b)) σ):O2 c (binaryOp .Mult) (.int a) (.int b) ρ σ Q X:=.mk λg R own s va vb S da db=>by refine da.on λ_=>?_;refine db.on λ_=>?_;exact PySem.P.mul_int (S.val (.int _ _) h) hm
theorem qE3(hb:b≠0)(hf:Builtin.divisionGoesByPylong a b=false)(h:Q (.int (a.fdiv b)) σ):O2 c (binaryOp .FloorDiv) (.int a) (.int b) ρ σ Q X:=.mk λg R own s va vb S da db=>by
 refine da.on λ_=>?_;refine db.on λ_=>?_;exact PyProof.Rows.floordiv_int hb (S.val (.int _ _) h) (by first|assumption| (rw[hf];simp)|simp[hf])
theorem qE2(hb:b≠0)(h:Q (.int (a.fmod b)) σ):O2 c (binaryOp .Mod) (.int a) (.int b) ρ σ Q X:=.mk λg R own s va vb S da db=>by refine da.on λ_=>?_;refine db.on λ_=>?_;exact PyProof.Rows.mod_int hb (S.val (.int _ _) h)
theorem qJc(hb:0≤b)(h:Q (.int (a.fdiv (2 ^ b.toNat))) σ):O2 c (binaryOp .RShift) (.int a) (.int b) ρ σ Q X:=.mk λg R own s va vb S da db=>by refine da.on λ_=>?_;refine db.on λ_=>?_;exact PyProof.Rows.rshift_int hb (S.val (.int _ _) h)
theorem qIF(h:Q (.int (Builtin.bitAnd a b)) σ):O2 c (binaryOp .BitAnd) (.int a) (.int b) ρ σ Q X:=.mk λg R own s va vb S da db=>by refine da.on λ_=>?_;refine db.on λ_=>?_;exact PyProof.Rows.and_int (S.val (.int _ _) h)
theorem O_pow(hb:0≤b)(hs:(Builtin.Int.intBits a:Int) * b≤2 ^ 27)(h:Q (.int (a ^ b.toNat)) σ):O2 c (binaryOp .Pow) (.int a) (.int b) ρ σ Q X:=.mk λg R own s va vb S da db=>by refine da.on λ_=>?_;refine db.on λ_=>?_;exact PyProof.Rows.pow_int hb hs (S.val (.int _ _) h)
theorem O_lt(h:Q (.bool (decide (a < b))) σ):O2 c (compareOp .Lt) (.int a) (.int b) ρ σ Q X:=.mk λg R own s va vb S da db=>by refine da.on λ_=>?_;refine db.on λ_=>?_;exact PySem.P.lt_int (S.val0 (.bool _) h)
theorem O_le(h:Q (.bool (decide (a≤b))) σ):O2 c (compareOp .LtE) (.int a) (.int b) ρ σ Q X:=.mk λg R own s va vb S da db=>by refine da.on λ_=>?_;refine db.on λ_=>?_;exact PySem.P.le_int (S.val0 (.bool _) h)
theorem O_gt(h:Q (.bool (decide (a > b))) σ):O2 c (compareOp .Gt) (.int a) (.int b) ρ σ Q X:=.mk λg R own s va vb S da db=>by refine da.on λ_=>?_;refine db.on λ_=>?_;exact PySem.P.gt_int (S.val0 (.bool _) h)
theorem O_ge(h:Q (.bool (decide (a ≥ b))) σ):O2 c (compareOp .GtE) (.int a) (.int b) ρ σ Q X:=.mk λg R own s va vb S da db=>by refine da.on λ_=>?_;refine db.on λ_=>?_;exact PySem.P.ge_int (S.val0 (.bool _) h)
theorem O_eq(h:Q (.bool (a==b)) σ):O2 c (compareOp .Eq) (.int a) (.int b) ρ σ Q X:=.mk λg R own s va vb S da db=>by refine da.on λ_=>?_;refine db.on λ_=>?_;exact PySem.P.eq_int (S.val0 (.bool _) h)
theorem O_ne(h:Q (.bool (a !=b)) σ):O2 c (compareOp .NotEq) (.int a) (.int b) ρ σ Q X:=.mk λg R own s va vb S da db=>by refine da.on λ_=>?_;refine db.on λ_=>?_;exact PySem.P.ne_int (S.val0 (.bool _) h)
theorem O_eqs(h:Q (.bool (x==y)) σ):O2 c (compareOp .Eq) (.str x) (.str y) ρ σ Q X:=.mk λg R own s va vb S da db=>by refine da.on λ_=>?_;refine db.on λ_=>?_;exact PyProof.Rows.eq_str (S.val0 (.bool _) h)
theorem O_nes(h:Q (.bool (x !=y)) σ):O2 c (compareOp .NotEq) (.str x) (.str y) ρ σ Q X:=.mk λg R own s va vb S da db=>by refine da.on λ_=>?_;refine db.on λ_=>?_;exact PyProof.Rows.ne_str (S.val0 (.bool _) h)
theorem O_les(h:Q (.bool (!decide (y.cps.toList < x.cps.toList))) σ):O2 c (compareOp .LtE) (.str x) (.str y) ρ σ Q X:=.mk λg R own s va vb S da db=>by refine da.on λ_=>?_;refine db.on λ_=>?_;exact PySem.P.le_str (S.val0 (.bool _) h)
theorem O_ins(h:Q (.bool !(Builtin.Str.occurrences x y 0 x.length 1).isEmpty) σ):O2 c (compareOp .In) (.str y) (.str x) ρ σ Q X:=.mk λg R own s va vb S da db=>by refine da.on λ_=>?_;refine db.on λ_=>?_;exact PyProof.Rows.in_str (S.val0 (.bool _) h)
theorem qHU(hs:x.length+y.length≤sizeLine)(h:Q (.str (x++y)) σ):O2 c (binaryOp .Add) (.str x) (.str y) ρ σ Q X:=.mk λg R own s va vb S da db=>by
 refine da.on λ_=>?_;refine db.on λ_=>?_;exact PyProof.Rows.add_str (λt' tk=>S.val (.str _ _) h) hs
theorem O_eqy(h:Q (.bool (u.toList==v.toList)) σ):O2 c (compareOp .Eq) (.bytes u) (.bytes v) ρ σ Q X:=.mk λg R own s va vb S da db=>by refine da.on λ_=>?_;refine db.on λ_=>?_;exact PySem.W.eq_bytes (S.val0 (.bool _) h)
theorem O_ney(h:Q (.bool (u.toList !=v.toList)) σ):O2 c (compareOp .NotEq) (.bytes u) (.bytes v) ρ σ Q X:=.mk λg R own s va vb S da db=>by refine da.on λ_=>?_;refine db.on λ_=>?_;exact PySem.W.ne_bytes (S.val0 (.bool _) h)
theorem qBJ(hs:u.size+v.size≤16777216)(h:Q (.bytes (u++v)) σ):O2 c (binaryOp .Add) (.bytes u) (.bytes v) ρ σ Q X:=.mk λg R own s va vb S da db=>by
 refine da.on λ_=>?_;refine db.on λ_=>?_;exact PySem.W.KBy.add_bytes hs (λt' tk=>S.val (.bytes _ _) h)
noncomputable def D.isNone(d:D):Bool:=Nat.beq d.ctorIdx 0
theorem DV.isNone{v:Value}(h:DV g d v):(v== .none)=d.isNone:=by cases h <;> rfl
theorem O_is(h:Q (.bool d.isNone) σ):O2 c (compareOp .Is) d .none ρ σ Q X:=.mk λg R own s va vb S da db=>by
 refine db.on λ_=>?_;exact PyProof.Rows.is_none_gen (S.val0 (by rw[da.isNone];exact .bool _) h)
theorem O_isn(h:Q (.bool (!d.isNone)) σ):O2 c (compareOp .IsNot) d .none ρ σ Q X:=.mk λg R own s va vb S da db=>by
 refine db.on λ_=>?_;exact PyProof.Rows.isnot_none_gen (S.val0 (by rw[da.isNone];exact .bool _) h)
theorem O_neg(h:Q (.int (-a)) σ):O1 c (unaryOp .USub) (.int a) ρ σ Q X:=.mk λg R own s va S da=>by refine da.on λ_=>?_;exact PySem.P.neg_int (S.val (.int _ _) h)
theorem O_not(h:OT c d ρ σ (kNotV Q) X):O1 c (unaryOp .Not) d ρ σ Q X:=.mk λg R own s va S da=>
 PySem.not_value (wpAny_mono (h.go g R own s va S da) (λb s1 p9=>p9.el λg1 τ l1 S1 q=>(.mk g1 (.bool (!b)) τ l1 S1 (.bool _) q)) λ_ _ x=>x)
theorem T_bool{Q:Bool→Sg→Prop}(h:Q p σ):OT c (.bool p) ρ σ Q X:=.mk λg R own s va S da=>by refine da.on λ_=>?_;exact wpAny_truthy_bool (.mk g σ (Le.refl g) S h)
end
noncomputable def qJ2(K:Frag)(C:Addr):Bool:=hasDictIn K C && plainGet K C "" && plainOver K C && findIn K (.ref C) "__setattr__"==some (some (.builtin "object.__setattr__"))
noncomputable def fldOk(K:Frag)(p:Addr × Str):Bool:=findIn K (.ref p.1) p.2==some none
noncomputable def mthOk(K:Frag)(p:Addr × Str × Addr):Bool:=findIn K (.ref p.1) p.2.1==some (some (.ref p.2.2)) && typeIn K (.ref p.2.2)==some (.type "function") && keepIn K (.ref p.2.2)
noncomputable def clsL:List Addr:=[137,175,462,685]
noncomputable def fldL:List (Addr × Str):=[(137,"uid"),(137,"octets"),(137,"flags"),(137,"instant"),(137,"modseq"),(175,"name"),(175,"validity"),(175,"next_uid"),(175,"top"),(175,"floor"),(175,"letters"),(175,"gone"),
 (462,"boxes"),(462,"subscribed"),(462,"next_validity"),(685,"store"),(685,"data")]
noncomputable def mthL:List (Addr × Str × Addr):=[(137,"told",134),(175,"letter",162),(175,"uids",167),(175,"told",172),(462,"box",447),(462,"names",454),(462,"told",459),(685,"replay",668),(685,"do",675),(685,"told",682)]
theorem clsAll(P:Params):clsL.all (qJ2 (KF P))=true:=by kernel_rfl
theorem fldAll(P:Params):fldL.all (fldOk (KF P))=true:=by kernel_rfl
theorem mthAll(P:Params):mthL.all (mthOk (KF P))=true:=by kernel_rfl
theorem qJ1{P:Params}{C:Addr}(h:C∈clsL):qJ2 (KF P) C=true:=List.all_eq_true.mp (clsAll P) C h
theorem fld_of{P:Params}{C:Addr}(h:(C,x)∈fldL):findIn (KF P) (.ref C) x=some none:=beq_iff_eq.mp (List.all_eq_true.mp (fldAll P) (C,x) h)
theorem mth_of{P:Params}{C f:Addr}(h:(C,x,f)∈mthL):findIn (KF P) (.ref C) x=some (some (.ref f))∧typeIn (KF P) (.ref f)=some (.type "function")∧keepIn (KF P) (.ref f)=true:=by
 have:=List.all_eq_true.mp (mthAll P) (C,x,f) h
 unfold mthOk at this
 rw[Bool.and_eq_true,Bool.and_eq_true]at this
 exact(y03 (beq_iff_eq.mp this.1.1) (beq_iff_eq.mp this.1.2) this.2)
theorem qDY(x y:Str)(t:Tok):(Value.str x t).isStr y=(x==y):=rfl
theorem Flds.find{fs:List (Str × D)}{es:List DictEntry}(F:Flds g fs es)(h:fs.lookup x=some d):∃e,es.find? (·.key.isStr x)=some e∧DV g d e.val:=by
 induction fs generalizing es with
 |nil=>cases h
 |cons p fs ih=>
  cases p with|mk y d'=>
  refine F.on λt hs v r dv F=>?_
  rw[List.lookup_cons]at h
  rw[List.find?_cons,qDY]
  by_cases k:x=y
  ·rw[k,beq_self_eq_true]at h ⊢
   rw[←Option.some.inj h]
   exact(y12 _ rfl dv)
  ·rw[show(x==y)=false from beq_eq_false_iff_ne.mpr k]at h
   rw[show(y==x)=false from beq_eq_false_iff_ne.mpr (Ne.symm k)]
   exact ih F h
theorem Flds.none{fs:List (Str × D)}{es:List DictEntry}(F:Flds g fs es)(h:fs.lookup x=Option.none):es.find? (·.key.isStr x)=Option.none:=by
 induction fs generalizing es with
 |nil=>exact F.end rfl
 |cons p fs ih=>
  cases p with|mk y d'=>
  refine F.on λt hs v r dv F=>?_
  rw[List.lookup_cons]at h
  rw[List.find?_cons,qDY]
  by_cases k:x=y
  ·rw[k,beq_self_eq_true]at h;cases h
  ·rw[show(x==y)=false from beq_eq_false_iff_ne.mpr k]at h
   rw[show(y==x)=false from beq_eq_false_iff_ne.mpr (Ne.symm k)]
   exact ih F h
theorem Flds.noRef{fs:List (Str × D)}{es:List DictEntry}(F:Flds g fs es):es.any (·.refKey)=false:=by
 induction fs generalizing es with
 |nil=>exact F.end rfl
 |cons p fs ih=>exact F.on λt hs v r dv F=>(show r.any (·.refKey)=false from ih F)
theorem Flds.len{fs:List (Str × D)}{es:List DictEntry}(F:Flds g fs es):es.length=fs.length:=by
 induction fs generalizing es with
 |nil=>exact F.end rfl
 |cons p fs ih=>exact F.on λt hs v r dv F=>congrArg Nat.succ (ih F)
noncomputable def fset:List (Str × D)→Str→D→List (Str × D)
 | [],x,d=>[(x,d)]
 |(y,e)::r,x,d=>if y==x then(y,d)::r else(y,e)::fset r x d
theorem fset_len(fs:List (Str × D))(x:Str)(d:D):(fset fs x d).length≤fs.length+1:=by
 induction fs with
 |nil=>exact Nat.le_refl _
 |cons p r ih=>
  cases p with|mk y e=>
  show(if y==x then(y,d)::r else(y,e)::fset r x d).length≤_
  split
  ·exact Nat.le_succ _
  ·exact Nat.succ_le_succ ih
theorem Flds.put(hsh:Int)(t:Tok)(dv:DV g d v){fs:List (Str × D)}{es:List DictEntry}(F:Flds g fs es):Flds g (fset fs x d) (putL x hsh (.str x t) v es):=by
 induction fs generalizing es with
 |nil=>exact F.end (.cons dv .nil)
 |cons p fs ih=>
  cases p with|mk y e=>
  refine F.on λt' hs w r dw F=>?_
  show Flds g (if y==x then _ else _) (if(Value.str y t').isStr x=true then _ else _)
  rw[qDY]
  cases k:(y==x)
  ·exact .cons dw (ih F)
  ·exact .cons dv F
theorem DV.handed(h:DV g d v)(k:d.flat=true):handedIn v=true:=by
 cases h <;> first|rfl|cases k
section
variable {M:Model}
theorem qHG{dx C:Addr}{es:List DictEntry}{fs:List (Str × D)}{expr:Bool}{Q:Value→Shared→Prop}(X:(KF w.params).In s.heap)(h1:s.heap.get? a=some (instObj C dx))(h2:s.heap.get? dx=some (dictOf es n))(hf:Flds g fs es)
  (hc:C∈clsL)(hx:(C,x)∈fldL)(hl:fs.lookup x=some d)(hd:d.flat=true)(h:∀v,DV g d v→Q v {s with toks:=s.toks+1}):wpAny (model pw w) A (getAttr (.ref a) x expr) Q E s:=by
 obtain⟨e,he,dv⟩:=hf.find hl
 have ck:=qJ1 (P:=w.params) hc
 unfold qJ2 at ck
 simp only[Bool.and_eq_true]at ck
 have I:InstAt s.heap a (instObj C dx) C (some (dictOf es n)):=⟨h1,rfl,rfl,h2⟩
 refine get_value X I (plainGet_of ck.1.1.2).1 (findObj_own ck.1.1.1 (fld_of hx) rfl (by rw[lookIn_dict];unfold getL;rw[he])) (dv.handed hd) (h _ dv)
theorem qEl{dx:Addr}{es:List DictEntry}{fs:List (Str × D)}{E':Value→Shared→Prop}{K:Fin→Shared→Prop}(h2:s.heap.get? dx=some (dictOf es n))(hf:Flds g fs es)(dv:DV g d v)(hz:fs.length < 1000)
  (h:∀h' es' n' tk,h'.get? dx=some (dictOf es' n')→Flds g (fset fs x d) es'→qBS dx s.heap h'→K (.done (.ret .none)) {s with heap:=h',toks:=tk}):
  wpAny (model pw w) A (nsSet dx x v) (λ_ s'=>wpAny (model pw w) A (do lookBehind dx (some (.str x 0));ret .none) K E' s') E' s:=by
 unfold nsSet
 refine wpAny_bind (wpAny_bind (wpAny_askSetting (wpAny_pure (wpAny_bind (wpAny_mkText (wpAny_bind (wpAny_loadPart (s:= {s with toks:=s.toks+1}) h2 ?_)))))))
 dsimp only
 have c:(!es.toArray.any (·.key.isStr x) && es.toArray.any (·.refKey))=false:=by
  rw[←Array.any_toList,←Array.any_toList]
  show(!es.any (·.key.isStr x) && es.any (·.refKey))=false
  rw[hf.noRef,Bool.and_false]
 rw[aRefKeyMayBeTheName_at,c]
 refine wpAny_updatePart (s:= {s with toks:=s.toks+1}) h2 ?_
 have put:=putName_dict x (PyData.keyHash w.params x) (.str x s.toks) v es n
 have D':(s.heap.update dx (Obj.putName x (PyData.keyHash w.params x) (.str x s.toks) v)).get? dx=some (dictOf (putL x (PyData.keyHash w.params x) (.str x s.toks) v es) (putN x es n)):=by
  rw[←put];exact Heap.get?_update_self _ h2 (by rw[put];rfl)
 have F':Flds g (fset fs x d) (putL x (PyData.keyHash w.params x) (.str x s.toks) v es):=hf.put _ _ dv
 refine wpAny_bind (wpAny_lookBehind (s:= {s with heap:=_,toks:=_}) D' (pastItsLine_dict (by
  rw[List.size_toArray,sizeLine_eq,F'.len];have:=fset_len fs x d;omega)) ?_)
 exact wpAny_pure (h _ _ _ _ D' F' λb ob hb e=>(Heap.get?_update_other _ _ (Ne.symm hb)).trans e)
theorem set_attr{dx C:Addr}{es:List DictEntry}{fs:List (Str × D)}{Q:Unit→Shared→Prop}(X:(KF w.params).In s.heap)(h1:s.heap.get? a=some (instObj C dx))(h2:s.heap.get? dx=some (dictOf es n))(hf:Flds g fs es)
  (hc:C∈clsL)(hx:(C,x)∈fldL)(dv:DV g d v)(hz:fs.length < 1000)
  (h:∀h' es' n' tk,h'.get? dx=some (dictOf es' n')→Flds g (fset fs x d) es'→qBS dx s.heap h'→Q () {s with heap:=h',toks:=tk}):wpAny (model pw w) A (setAttr (.ref a) x v) Q E s:=by
 have ck:=qJ1 (P:=w.params) hc
 unfold qJ2 at ck
 simp only[Bool.and_eq_true]at ck
 have I:InstAt s.heap a (instObj C dx) C (some (dictOf es n)):=⟨h1,rfl,rfl,h2⟩
 refine set_plain X I (beq_iff_eq.mp ck.2) (osa_open (s:= {s with toks:=s.toks+1}) (r:=Option.none) X I ck.1.2 (by unfold takerIn;rw[fld_of hx];rfl) λb=>?_)
 obtain⟨cd,hcd,hdict⟩:=any_some ck.1.1.1
 dsimp only
 refine wpAny_bind (wpAny_pure (wpAny_bind (wpAny_bind (wpAny_loadPart (s:= {s with toks:=s.toks+1}) h1 (wpAny_bind (Looks.here (s:= {s with toks:=s.toks+1}) (looks_clsIn X hcd) ?_))))))
 rw[hdict]
 refine wpAny_pure (a:=some dx) (wpAny_bind (wpAny_pure (wpAny_bind ?_)))
 exact qEl (s:= {s with toks:=s.toks+1}) h2 hf dv hz h
end
noncomputable def Sg.del(σ:Sg)(a:Addr):Sg:=λb=>if b=a then none else σ b
theorem Sg.del_set{o:MO}(h:σ a=none):(σ.set a o).del a=σ:=by
 funext b
 unfold Sg.del Sg.set
 by_cases k:b=a
 ·simp[k,h]
 ·simp[k]
theorem Sg.del_sub(σ:Sg)(a:Addr):(σ.del a).Sub σ:=λb o e=>by
 unfold Sg.del at e
 split at e
 ·cases e
 ·exact e
noncomputable def fldB(C:Addr)(x:Str):Bool:=decide (C∈clsL∧(C,x)∈fldL)
theorem qCh{C:Addr}(h:true=fldB C x):C∈clsL∧(C,x)∈fldL:=of_decide_eq_true h.symm
section
theorem St.inst(S:St c g R ρ σ own s){C:Addr}{fs:List (Str × D)}(h:σ a=some (.inst C fs)):s.heap.get? a=some (instObj C (a - 1))∧∃es n,s.heap.get? (a - 1)=some (dictOf es n)∧Flds g fs es:=S.rel.rep a _ h
theorem WE_Attr{attr:Str}(h:WE c e ρ σ (kO1 c X ρ (λv=>getAttr v attr true) Q) X)
  (he:autoParam (eval (.Attribute e attr p) c.env=(do let o ←eval e c.env;standAt p.atName;let r ←holding [o] (getAttr o attr true);letTemporaryGo e o r;pure r)) auR):WE c (.Attribute e attr p) ρ σ Q X:=.mk λg R own s S=>
 Attribute_any_ (h.use S (λg1 d τ v s1 l1 S1 dv q=>wpAny_mono (q.go g1 R own s1 v S1 dv) (λ_ _ x=>x.le l1) λ_ _ x=>x.le l1) λ_ _ x=>x) he
theorem A_obj{C:Addr}{fs:List (Str × D)}(h:σ a=some (.inst C fs))(hl:some d=fs.lookup x)(q:Q d σ)(hx:autoParam (true=fldB C x) auK)(hd:autoParam (true=d.flat) auR):
  O1 c (λv=>getAttr v x true) (.obj a) ρ σ Q X:=.mk λg R own s v S dv=>by
 refine dv.on λ_=>?_
 obtain⟨h1,es,n,h2,hf⟩:=S.inst h
 exact qHG (S.wd.K.keeps S.rel.keep) h1 h2 hf (qCh hx).1 (qCh hx).2 hl.symm hd.symm λv dv=>S.val dv q
theorem A_inst{C:Addr}{fs:List (Str × D)}(hl:some d=fs.lookup x)(q:Q d σ)(hx:autoParam (true=fldB C x) auK)(hd:autoParam (true=d.flat) auR):
  O1 c (λv=>getAttr v x true) (.inst C fs) ρ σ Q X:=.mk λg R own s v S dv=>by
 refine dv.on λ_ _ _ _ h1 h2 hf=>?_
 exact qHG (S.wd.K.keeps S.rel.keep) (S.rel.keep _ _ h1) (S.rel.keep _ _ h2) hf (qCh hx).1 (qCh hx).2 hl.symm hd.symm λv dv=>S.val dv q
def AttrSP.Ar(Z:Prop)(x:Str)(ρ:Ro)(N:Ro→Sg→Prop)(d od:D)(υ:Sg):Prop:=∀(a C:Addr) (fs:List (Str × D)) (e:od= .obj a) (h:υ a=some (.inst C fs)) (k:true=fldB C x) (z:true=Nat.ble fs.length 999) (n:N ρ (υ.set a (.inst C (fset fs x d)))),Z
@[irreducible] def AttrSP (x:Str) (ρ:Ro) (N:Ro→Sg→Prop) (d od:D) (υ:Sg):Prop:=∀Z,AttrSP.Ar Z x ρ N d od υ→Z
theorem AttrSP.mk{od:D}{υ:Sg}:AttrSP.Ar (AttrSP x ρ N d od υ) x ρ N d od υ:=by delta AttrSP;exact λa C fs e h k z n _ kk=>kk a C fs e h k z n
theorem AttrSP.el{od:D}{υ:Sg}(hh:AttrSP x ρ N d od υ):AttrSP.Ar Z x ρ N d od υ→Z:=by delta AttrSP at hh;exact hh Z
abbrev kAttrS(c:Cx)(o:Expr)(x:Str)(ρ:Ro)(N:Ro→Sg→Prop)(X:Addr→Sg→Prop):D→Sg→Prop:=λd τ=>WE c o ρ τ (AttrSP x ρ N d) X
theorem qAT{o:Expr}{p':Pos}{X:Ro→Addr→Sg→Prop}
  (h:WE c e ρ σ (kAttrS c o x ρ N (X ρ)) (X ρ))
  (hs:autoParam (pure false=swapsWith e (some (.Attribute o x p')) p.line c.env) auR):ST c (.Assign [.Attribute o x p'] e p) ρ σ N Rt X:=.mk λg R own s S=>
 plainObj_wpAny_Assign_Attribute (h.use S (λg1 d τ v s1 l1 S1 dv q=>q.use S1 (λg2 od υ ov s2 l2 S2 dov o9'=>o9'.el λa C fs e1 e2 hk hz n=>by
  subst e1
  refine dov.on λ_=>?_
  obtain⟨h1,es,n',h2,hf⟩:=S2.inst e2
  refine set_attr (S2.wd.K.keeps S2.rel.keep) h1 h2 hf (qCh hk).1 (qCh hk).2 (dv.mono l2) (Nat.lt_succ_of_le (Nat.le_of_ble_eq_true hz.symm)) λh' es' n'' tk h3 hf' kb=>?_
  have hne:a≠a - 1:=λq=>by rw[←q,h1]at h2;injection h2 with h2;cases h2
  refine(.mk g2 own ρ _ (l1.trans l2) (St.toks (s:= {s2 with heap:=h'}) ⟨S2.ok,?_,S2.wd,S2.gens,S2.os,S2.locs,S2.frs⟩ tk) n)
  exact S2.rel.turn e2 (λb hb=>hb) (λb ob hb q=>kb b ob (λz=>hb (by simp[MO.at,z])) q) ⟨kb _ _ hne h1,es',n'',h3,hf'⟩) λ_ _ x=>(x.le l1).toS) λ_ _ x=>x.toS) hs.symm
end
def TupP.Ar(Z:Prop)(Q:D→Sg→Prop)(ds:List D)(τ:Sg):Prop:=∀(hz:ds.length≤sizeLine) (q:Q (.tup ds) τ),Z
@[irreducible] def TupP (Q:D→Sg→Prop) (ds:List D) (τ:Sg):Prop:=∀Z,TupP.Ar Z Q ds τ→Z
theorem TupP.mk:TupP.Ar (TupP Q ds τ) Q ds τ:=by delta TupP;exact λhz q _ k=>k hz q
theorem TupP.el(h:TupP Q ds τ):TupP.Ar Z Q ds τ→Z:=by delta TupP at h;exact h Z
def LstP.Ar(Z:Prop)(Q:D→Sg→Prop)(ds:List D)(τ:Sg):Prop:=∀(hz:ds.length≤sizeLine) (q:Q (.lst ds) τ),Z
@[irreducible] def LstP (Q:D→Sg→Prop) (ds:List D) (τ:Sg):Prop:=∀Z,LstP.Ar Z Q ds τ→Z
theorem LstP.mk:LstP.Ar (LstP Q ds τ) Q ds τ:=by delta LstP;exact λhz q _ k=>k hz q
theorem LstP.el(h:LstP Q ds τ):LstP.Ar Z Q ds τ→Z:=by delta LstP at h;exact h Z
def LsTP.Ar(Z:Prop)(Q:D→Sg→Prop)(ds:List D)(τ:Sg):Prop:=∀(hz:ds.length≤sizeLine) (q:∀a,τ a=none→Q (.obj a) (τ.set a (.list ds))),Z
@[irreducible] def LsTP (Q:D→Sg→Prop) (ds:List D) (τ:Sg):Prop:=∀Z,LsTP.Ar Z Q ds τ→Z
theorem LsTP.mk:LsTP.Ar (LsTP Q ds τ) Q ds τ:=by delta LsTP;exact λhz q _ k=>k hz q
theorem LsTP.el(h:LsTP Q ds τ):LsTP.Ar Z Q ds τ→Z:=by delta LsTP at h;exact h Z
def FrzI.Ar(Z:Prop)(Q:D→Sg→Prop)(d:D)(τ:Sg):Prop:=∀(a C:Addr) (fs:List (Str × D)) (e:d= .obj a) (h:τ a=some (.inst C fs)) (q:Q (.inst C fs) (τ.del a)),Z
@[irreducible] def FrzI (Q:D→Sg→Prop) (d:D) (τ:Sg):Prop:=∀Z,FrzI.Ar Z Q d τ→Z
theorem FrzI.mk:FrzI.Ar (FrzI Q d τ) Q d τ:=by delta FrzI;exact λa C fs e h q _ k=>k a C fs e h q
theorem FrzI.el(hh:FrzI Q d τ):FrzI.Ar Z Q d τ→Z:=by delta FrzI at hh;exact hh Z
def FrzL.Ar(Z:Prop)(Q:D→Sg→Prop)(d:D)(τ:Sg):Prop:=∀(a:Addr) (l:List D) (e:d= .obj a) (h:τ a=some (.list l)) (q:Q (.lst l) (τ.del a)),Z
@[irreducible] def FrzL (Q:D→Sg→Prop) (d:D) (τ:Sg):Prop:=∀Z,FrzL.Ar Z Q d τ→Z
theorem FrzL.mk:FrzL.Ar (FrzL Q d τ) Q d τ:=by delta FrzL;exact λa l e h q _ k=>k a l e h q
theorem FrzL.el(hh:FrzL Q d τ):FrzL.Ar Z Q d τ→Z:=by delta FrzL at hh;exact hh Z
noncomputable def mthB(C:Addr)(x:Str)(f:Addr):Bool:=decide (C∈clsL∧(C,x,f)∈mthL)
theorem qEm{C:Addr}{f:Addr}(h:true=mthB C x f):C∈clsL∧(C,x,f)∈mthL:=of_decide_eq_true h.symm
section
theorem qC8{dx C f:Addr}{es:List DictEntry}{fs:List (Str × D)}{pl:Sem Bool}{Q:Value × List Value→Shared→Prop}(X:(KF w.params).In s.heap)
  (h1:s.heap.get? a=some (instObj C dx))(h2:s.heap.get? dx=some (dictOf es n))(hf:Flds g fs es)(hc:C∈clsL)(hx:(C,x,f)∈mthL)(hl:fs.lookup x=none)(h:Q (.ref f,[.ref a]) s):wpAny (model pw w) A (getMethod (.ref a) x pl) Q E s:=by
 have ck:=qJ1 (P:=w.params) hc
 unfold qJ2 at ck
 simp only[Bool.and_eq_true]at ck
 obtain⟨m1,m2,m3⟩:=mth_of (P:=w.params) hx
 have I:InstAt s.heap a (instObj C dx) C (some (dictOf es n)):=⟨h1,rfl,rfl,h2⟩
 have pg:=plainGet_of ck.1.1.2
 exact method_fn X I pg.1 pg.2 m1 m2 (by show(lookIn x (dictOf es n)).map _=_;rw[lookIn_dict];unfold getL;rw[hf.none hl,hf.noRef];rfl) h
theorem qAQ{C f:Addr}{fs:List (Str × D)}(h:σ a=some (.inst C fs))(hl:autoParam (none=fs.lookup x) auR)(hx:autoParam (true=mthB C x f) auK):GM c (.obj a) x ρ σ (.obj f) [.obj a]:=.mk λg R own s v pl S dv=>by
 refine dv.on λ_=>?_
 obtain⟨h1,es,n,h2,hf⟩:=S.inst h
 exact qC8 (S.wd.K.keeps S.rel.keep) h1 h2 hf (qEm hx).1 (qEm hx).2 hl.symm (.mk g (Le.refl g) S (.obj _) (.cons (.obj _) .nil))
theorem GM_inst{C f:Addr}{fs:List (Str × D)}(hl:autoParam (none=fs.lookup x) auR)(hx:autoParam (true=mthB C x f) auK):GM c (.inst C fs) x ρ σ (.obj f) [.inst C fs]:=.mk λg R own s v pl S dv=>by
 refine dv.on λ_ _ _ _ h1 h2 hf=>?_
 exact qC8 (S.wd.K.keeps S.rel.keep) (S.rel.keep _ _ h1) (S.rel.keep _ _ h2) hf (qEm hx).1 (qEm hx).2 hl.symm (.mk g (Le.refl g) S (.obj _) (.cons (.inst h1 h2 hf) .nil))
noncomputable def makeOk(K:Frag)(p:Addr × Addr):Bool:=makesIn K p.1 && findIn K (.ref p.1) "__init__"==some (some (.ref p.2)) && typeIn K (.ref p.2)==some (.type "function")
noncomputable def makeL:List (Addr × Addr):=[(137,120),(175,155),(462,433),(685,661)]
theorem makeAll(P:Params):makeL.all (makeOk (KF P))=true:=by kernel_rfl
theorem Room.tc{fr:List Env}{C:Addr}{l:List Value}(r:Room A fr (lv+1)):Room (A.under (.builtin "type.__call__" ⟨.ref C::l,[]⟩)) fr lv:=⟨r.hh,r.hf,rmE r.hd,rmG r.hu,by unfold Around.under;rw[r.gd];rfl⟩
theorem qFM{C fI:Addr}(hm:(C,fI)∈makeL)
  (h:∀x,σ x=none→FN w os lv fI (.obj x::as) (σ.set x (.inst C [])) (λd τ=>d= .none∧Q (.obj x) τ) X):FN w os (lv+1) C as σ Q X:=by
 intro A fr g R s vf vs rm fo rel wd hgs hos e dvs
 subst e
 have mk:=List.all_eq_true.mp (makeAll w.params) _ hm
 unfold makeOk at mk
 simp only[Bool.and_eq_true]at mk
 have XK:=wd.K.keeps rel.keep
 have hi:=looks_findIn (M:=model pw w) XK (beq_iff_eq.mp mk.1.2)
 have ht:=beq_iff_eq.mp mk.2
 obtain⟨hp,gs,dr,tk,os'⟩:=s
 refine make_core (makes_of XK mk.1.1) hi (λself=>bind_fn XK self ht) (.inl (by rfl)) ?_
 have k:Le hp ((hp.push emptyDict).push (instObj C hp.objs.size)):=λb o e=>Heap.get?_push_of_some _ (Heap.get?_push_of_some _ e)
 have e1:((hp.push emptyDict).push (instObj C hp.objs.size)).get? (hp.objs.size+1)=some (instObj C hp.objs.size):=by heap_get
 have e2:((hp.push emptyDict).push (instObj C hp.objs.size)).get? hp.objs.size=some emptyDict:=by heap_get
 have f1:hp.get? hp.objs.size=none:=qAM hp
 have f2:hp.get? (hp.objs.size+1)=none:=qAU λo q=>Nat.lt_irrefl _ (Nat.lt_trans (Nat.lt_succ_self _) (Heap.lt_size q))
 have hn:σ (hp.objs.size+1)=none:=by
  cases q:σ (hp.objs.size+1) with
  |none=>rfl
  |some o=>
   exact absurd (show(hp.objs.size+1)∈o.at (hp.objs.size+1) from MO.self _ _) ((rel.taken f2).2.2 _ o q)
 have rel':Rel w g R (σ.set (hp.objs.size+1) (.inst C [])) ((hp.push emptyDict).push (instObj C hp.objs.size)):=rel.new k (λb hb=>by
  simp[MO.at]at hb
  rcases hb with rfl|rfl
  ·exact f2
  ·exact f1) ⟨e1,[],0,e2,.nil⟩
 refine codeAny_mono (h _ hn _ fr g R _ _ (.ref (hp.objs.size+1)::vs) rm.tc fo rel' wd hgs hos rfl (.cons (.obj _) dvs)) λr s' p=>?_
 cases r with
 |error ev=>exact p
 |ok fl=>cases fl with
  |ret v=>
   refine p.el λg' d σ' l r q1 q2 dv q=>?_
   obtain⟨rfl,q⟩:=q
   refine dv.on λ_=>?_
   exact⟨rfl,.mk g' _ σ' l r q1 q2 (.obj _) q⟩
  |next=>exact p.elim
  |brk=>exact p.elim
  |cont=>exact p.elim
theorem St.freeze(S:St c g R ρ σ own s){o:MO}(h:σ a=some o):∃g',Le g g'∧St c g' R ρ (σ.del a) own s∧∀b∈o.at a,∀ob,s.heap.get? b=some ob→g'.get? b=some ob:=by
 have r1:=S.rel.forget (Sg.del_sub σ a)
 obtain⟨g',l,r,f⟩:=r1.grow
 refine(y13 g' l ⟨S.ok,r,S.wd.mono l,S.gens,S.os,S.locs.mono l,S.frs⟩ (λb hb ob e=>f b ob e ⟨(S.rel.off a o h b hb).2,λa' o' e' hb'=>?_⟩))
 unfold Sg.del at e'
 split at e'
 ·cases e'
 ·rename_i k;exact S.rel.apart a o a' o' h e' (Ne.symm k) b hb hb'
theorem qER(h:WE c e ρ σ (FrzI Q) X):WE c e ρ σ Q X:=.mk λg R own s S=>
 h.use S (λg1 d τ v s1 l1 S1 dv o1'=>o1'.el λa C fs e1 e2 q=>by
  subst e1;refine dv.on λ_=>?_
  obtain⟨h1,es,n,h2,hf⟩:=S1.inst e2
  obtain⟨g2,l2,S2,f⟩:=S1.freeze e2
  exact(.mk g2 _ _ (l1.trans l2) S2 (.inst (f a (by simp[MO.at]) _ h1) (f (a - 1) (by simp[MO.at]) _ h2) (hf.mono l2)) q)) λ_ _ x=>x
theorem qCq(h:WE c e ρ σ (FrzL Q) X):WE c e ρ σ Q X:=.mk λg R own s S=>
 h.use S (λg1 d τ v s1 l1 S1 dv o2'=>o2'.el λa l e1 e2 q=>by
  subst e1;refine dv.on λ_=>?_
  obtain⟨vs,n,h1,dvs⟩:=S1.rel.rep a _ e2
  obtain⟨g2,l2,S2,f⟩:=S1.freeze e2
  exact(.mk g2 _ _ (l1.trans l2) S2 (.lst (vs:=vs.toList) (y13 _ (f a (by simp[MO.at]) _ h1) rfl ⟨_,rfl⟩) (dvs.mono l2)) q)) λ_ _ x=>x
theorem St.newObj(S:St c g R ρ σ own s)(hf:o.isFreed=false):∃g',Le g g'∧St c g' R ρ σ own {s with heap:=s.heap.push o}∧g'.get? s.heap.objs.size=some o:=by
 obtain⟨g',l,S',f⟩:=S.ext (h':=s.heap.push o) (tk:=s.toks) λb ob e=>Heap.get?_push_of_some _ e
 exact(y13 g' l S' (f _ _ (Heap.get?_push_size _ hf) (S.free_new (qAM _))))
theorem St.newMO{mo:MO}(S:St c g R ρ σ own s)(r:MRep c.w g (s.heap.push o) s.heap.objs.size mo)(hat:mo.at s.heap.objs.size= [s.heap.objs.size]):σ s.heap.objs.size=none∧St c g R ρ (σ.set s.heap.objs.size mo) own {s with heap:=s.heap.push o}:=by
 have fr:=qAM s.heap
 refine⟨?_,S.ok,S.rel.new (λb ob e=>Heap.get?_push_of_some _ e) (λb hb=>?_) r,S.wd,S.gens,S.os,S.locs,S.frs⟩
 ·cases q:σ s.heap.objs.size with
  |none=>rfl
  |some o=>exact absurd (show s.heap.objs.size∈o.at s.heap.objs.size from MO.self _ _) ((S.rel.taken fr).2.2 _ o q)
 ·rw[hat]at hb;rw[List.mem_singleton.mp hb];exact fr
theorem WE_Tuple(h:WEs c p es ρ σ (TupP Q) X):WE c (.Tuple es k p) ρ σ Q X:=.mk λg R own s S=>
 wpAny_Tuple (h.use S (λg1 ds τ vs s1 l1 S1 dvs o3'=>o3'.el λhz q=>by
  obtain⟨g2,l2,S2,e⟩:=S1.newObj (o:= {cls:=.type "tuple",data:=.seq vs.toArray}) rfl
  exact⟨by rw[dvs.length];exact hz,.mk g2 _ τ (l1.trans l2) S2 (.tup (y13 _ e rfl ⟨_,rfl⟩) (dvs.mono l2)) q⟩) λ_ _ x=>x)
theorem qAR(h:WEs c p es ρ σ (LstP Q) X):WE c (.List es p) ρ σ Q X:=.mk λg R own s S=>
 wpAny_List (h.use S (λg1 ds τ vs s1 l1 S1 dvs o4'=>o4'.el λhz q=>by
  obtain⟨g2,l2,S2,e⟩:=S1.newObj (o:=listOf vs.toArray 0) rfl
  exact⟨by rw[dvs.length];exact hz,.mk g2 _ τ (l1.trans l2) S2 (.lst (y13 _ e rfl ⟨_,rfl⟩) (dvs.mono l2)) q⟩) λ_ _ x=>x)
theorem qBP(h:WEs c p es ρ σ (LsTP Q) X):WE c (.List es p) ρ σ Q X:=.mk λg R own s S=>
 wpAny_List (h.use S (λg1 ds τ vs s1 l1 S1 dvs o5'=>o5'.el λhz q=>by
  obtain⟨n,S2⟩:=S1.newMO (o:=listOf vs.toArray 0) (mo:=.list ds) (y22 vs.toArray 0 (Heap.get?_push_size _ rfl) dvs) rfl
  exact⟨by rw[dvs.length];exact hz,.mk g1 _ _ l1 S2 (.obj _) (q _ n)⟩) λ_ _ x=>x)
end
theorem DVs.one(h:DVs g [d] vs):∃v,vs= [v]∧DV g d v:=by
 exact h.on λv ws h r=>r.end (y12 v rfl h)
theorem DVs.two{e:D}(h:DVs g [d,e] vs):∃v u,vs= [v,u]∧DV g d v∧DV g e u:=by
 exact h.on λv ws h r=>r.on λu ws k r=>r.end (y23 v u rfl h k)
section
variable {n m:Int}{y:Str}{p:Bool}
theorem C_ord{ch:Nat}(h:Q (.int ch) σ):OC c (.blt "ord") [.str ⟨#[ch]⟩] ρ σ Q X:=.mk λg R own s vf vs S dv dvs=>by
 refine dv.on λ_=>?_;obtain⟨v1,rfl,d1⟩:=dvs.one;refine d1.on λ_=>?_;exact PySem.P.ord_of_char (S.val (.int _ _) h)
theorem C_chr(hi:0≤n∧n≤0x10FFFF)(h:Q (.str ⟨#[n.toNat]⟩) σ):OC c (.blt "chr") [.int n] ρ σ Q X:=.mk λg R own s vf vs S dv dvs=>by
 refine dv.on λ_=>?_;obtain⟨v1,rfl,d1⟩:=dvs.one;refine d1.on λ_=>?_;exact PySem.P.chr_of_int (by simp;omega) (S.val (.str _ _) h)
theorem C_abs(h:Q (.int (if n < 0 then -n else n)) σ):OC c (.blt "abs") [.int n] ρ σ Q X:=.mk λg R own s vf vs S dv dvs=>by
 refine dv.on λ_=>?_;obtain⟨v1,rfl,d1⟩:=dvs.one;refine d1.on λ_=>?_;exact PyProof.Rows.call_abs_int λu tk=>S.val (.int _ _) h
theorem C_int(h:Q (.int n) σ):OC c (.typ "int") [.int n] ρ σ Q X:=.mk λg R own s vf vs S dv dvs=>by
 refine dv.on λ_=>?_;obtain⟨v1,rfl,d1⟩:=dvs.one;refine d1.on λ_=>?_;exact call_int_int (S.val0 (.int _ _) h)
theorem qE6(hz:x.length≤sizeLine)(h:Q (.int x.length) σ):OC c (.blt "len") [.str x] ρ σ Q X:=.mk λg R own s vf vs S dv dvs=>by
 refine dv.on λ_=>?_;obtain⟨v1,rfl,d1⟩:=dvs.one;refine d1.on λ_=>?_;exact PySem.P.len_str (by rw[sizeLine_eq]at hz;omega) (S.val (.int _ _) h)
theorem qB6(hz:b.size≤sizeLine)(h:Q (.int b.size) σ):OC c (.blt "len") [.bytes b] ρ σ Q X:=.mk λg R own s vf vs S dv dvs=>by
 refine dv.on λ_=>?_;obtain⟨v1,rfl,d1⟩:=dvs.one;refine d1.on λ_=>?_;exact len_bytes (by rw[sizeLine_eq]at hz;omega) (S.val (.int _ _) h)
theorem qGI(hz:ds.length≤sizeLine)(h:Q (.int ds.length) σ):OC c (.blt "len") [.tup ds] ρ σ Q X:=.mk λg R own s vf vs S dv dvs=>by
 refine dv.on λ_=>?_;obtain⟨v1,rfl,d1⟩:=dvs.one;refine d1.on λa us ht hv=>?_
 have e:us.toArray.size=ds.length:=by rw[List.size_toArray,hv.length]
 exact PyProof.Rows.len_tuple (items:=us.toArray) (ht.keeps S.rel.keep) (by rw[sizeLine_eq]at hz;omega) (by rw[e];exact S.val (.int _ _) h)
theorem qHa(hz:ds.length≤sizeLine)(h:Q (.int ds.length) σ):OC c (.blt "len") [.lst ds] ρ σ Q X:=.mk λg R own s vf vs S dv dvs=>by
 refine dv.on λ_=>?_;obtain⟨v1,rfl,d1⟩:=dvs.one;refine d1.on λa us ht hv=>?_
 have e:us.toArray.size=ds.length:=by rw[List.size_toArray,hv.length]
 exact call_len_list (items:=us.toArray) (ht.at (S.rel.keep _)) (by rw[sizeLine_eq]at hz;omega) (by rw[e];exact S.val (.int _ _) h)
theorem C_lenL(hl:σ a=some (.list ds))(hz:ds.length≤sizeLine)(h:Q (.int ds.length) σ):OC c (.blt "len") [.obj a] ρ σ Q X:=.mk λg R own s vf vs S dv dvs=>by
 refine dv.on λ_=>?_;obtain⟨v1,rfl,d1⟩:=dvs.one;refine d1.on λ_=>?_
 obtain⟨us,k,h1,hv⟩:=S.rel.rep a _ hl
 have e:us.size=ds.length:=by rw[←hv.length,Array.length_toList]
 exact call_len_list (items:=us) (y13 _ h1 rfl ⟨_,rfl⟩) (by rw[sizeLine_eq]at hz;omega) (by rw[e];exact S.val (.int _ _) h)
theorem C_min(hb:c.bare=true)(h:Q (.int (if m < n then m else n)) σ):OC c (.blt "min") [.int n,.int m] ρ σ Q X:=.mk λg R own s vf vs S dv dvs=>by
 refine dv.on λ_=>?_;obtain⟨v1,v2,rfl,d1,d2⟩:=dvs.two;refine d1.on λ_=>?_;refine d2.on λ_=>?_
 refine min_two_ints (S.ok.hh hb) λh' tk k=>?_
 have S':=(S.heap (S.rel.ext k)).toks tk
 by_cases q:m < n
 ·rw[if_pos q]at h ⊢;exact S'.val0 (.int _ _) h
 ·rw[if_neg q]at h ⊢;exact S'.val0 (.int _ _) h
noncomputable def isiT:List String:=["bool","int","str","bytes","tuple"]
noncomputable def isiN(d:D):Option String:=Nat.rec none (λi _=>isiT[i]?) d.ctorIdx
noncomputable def isi(d:D)(T:String):Bool:=match isiN d with
 |some n=>n==T || (n=="bool" && T=="int")
 |none=>false
theorem isiK(P:Params):isiT.all (λn=>isiT.all λT=>kitOne (KF P) (.type n) (.type T)==some (n==T || (n=="bool" && T=="int")))=true:=by kernel_rfl
theorem qEp{P:Params}{n T:String}(hn:n∈isiT)(hT:T∈isiT):kitOne (KF P) (.type n) (.type T)=some (n==T || (n=="bool" && T=="int")):=beq_iff_eq.mp (List.all_eq_true.mp (List.all_eq_true.mp (isiK P) n hn) T hT)
theorem qEG{T:String}(hT:T∈isiT)(hd:(isiN d).isSome=true)(h:Q (.bool (isi d T)) σ):OC c (.blt "isinstance") [d,.typ T] ρ σ Q X:=.mk λg R own s vf vs S dv dvs=>by
 refine dv.on λ_=>?_;obtain⟨v1,v2,rfl,d1,d2⟩:=dvs.two;refine d2.on λ_=>?_
 have X':=S.wd.K.keeps S.rel.keep
 cases d with
 |bool=>exact d1.on λ_=>kia_one kitx_bool X' trivial (qEp (by decide) hT) (λe=>nomatch e) λtk=>S.val (.bool _) h
 |int=>exact d1.on λ_=>kia_one kitx_int X' trivial (qEp (by decide) hT) (λe=>nomatch e) λtk=>S.val (.bool _) h
 |str=>exact d1.on λ_=>kia_one kitx_str X' trivial (qEp (by decide) hT) (λe=>nomatch e) λtk=>S.val (.bool _) h
 |bytes=>exact d1.on λ_=>kia_one kitx_bytes X' trivial (qEp (by decide) hT) (λe=>nomatch e) λtk=>S.val (.bool _) h
 |tup=>
  refine d1.on λa us ht hv=>?_
  obtain⟨o,ho,hc,_⟩:=ht.keeps S.rel.keep
  simp only[isiT,List.mem_cons,List.not_mem_nil,or_false]at hT
  rcases hT with rfl|rfl|rfl|rfl|rfl
  ·exact IsiPair.tuple_bool ho hc (S.val (.bool _) h)
  ·exact IsiPair.tuple_int ho hc (S.val (.bool _) h)
  ·exact IsiPair.tuple_str ho hc (S.val (.bool _) h)
  ·exact IsiPair.tuple_bytes ho hc (S.val (.bool _) h)
  ·exact IsiPair.tuple_tuple ho hc (S.val0 (.bool _) h)
 |_=>exact absurd hd Bool.false_ne_true
end
section
variable {n m:Int}{y:Str}{p:Bool}
theorem qGG{name:Str}{id:String}(slot:Slot "str" name id)(hty:typeOf (.builtin id)=pure (.type "method_descriptor")):GM c (.str x) name ρ σ (.blt id) [.str x]:=.mk λg R own s v pl S dv=>by
 refine dv.on λ_=>?_
 exact getMethod_builtin (T:="str") rfl PySem.F.plainAttrs_str slot hty (λa e=>nomatch e) (.mk g (Le.refl g) S (.blt _) (.cons (.str _ _) .nil))
theorem qB5{l:List D}(h:σ a=some (.list l)):GM c (.obj a) "append" ρ σ (.blt "list.append") [.obj a]:=.mk λg R own s v pl S dv=>by
 refine dv.on λ_=>?_
 obtain⟨us,k,h1,hv⟩:=S.rel.rep a _ h
 exact getMethod_list_append h1 rfl rfl (.mk g (Le.refl g) S (.blt _) (.cons (.obj _) .nil))
theorem GM_dict{es:List (Str × D)}{name:Str}{id:String}(slot:Slot "dict" name id)(hty:typeOf (.builtin id)=pure (.type "method_descriptor"))(h:σ a=some (.dstr es)):GM c (.obj a) name ρ σ (.blt id) [.obj a]:=.mk λg R own s v pl S dv=>by
 refine dv.on λ_=>?_
 obtain⟨kvs,⟨o,es',ep,ho,he,_⟩,_⟩:=S.rel.rep a _ h
 exact getMethod_builtin (T:="dict") (y12 o ho he.1) PySem.F.plainAttrs_dict slot hty (λa' e=>by injection e with e;subst e;exact(y12 o ho he.2.1)) (.mk g (Le.refl g) S (.blt _) (.cons (.obj _) .nil))
theorem GM_split:GM c (.str x) "split" ρ σ (.blt "str.split") [.str x]:=qGG PySem.F.slot_str_split PySem.F.type_str_split
theorem GM_lower:GM c (.str x) "lower" ρ σ (.blt "str.lower") [.str x]:=qGG PySem.F.slot_str_lower PySem.F.type_str_lower
theorem GM_find:GM c (.str x) "find" ρ σ (.blt "str.find") [.str x]:=qGG PySem.F.slot_str_find PySem.F.type_str_find
theorem qFH:GM c (.str x) "startswith" ρ σ (.blt "str.startswith") [.str x]:=qGG PySem.F.slot_str_startswith PySem.F.type_str_startswith
theorem GM_join:GM c (.str x) "join" ρ σ (.blt "str.join") [.str x]:=qGG PySem.F.slot_str_join PySem.F.type_str_join
theorem GM_pop{es:List (Str × D)}(h:σ a=some (.dstr es)):GM c (.obj a) "pop" ρ σ (.blt "dict.pop") [.obj a]:=GM_dict PySem.F.slot_dict_pop PySem.F.type_dict_pop h
theorem qJk(hz:3 * x.length≤sizeLine)(hf:Builtin.Str.tooLong (Txt.lower x).length=false)(h:Q (.str (Txt.lower x)) σ):OC c (.blt "str.lower") [.str x] ρ σ Q X:=.mk λg R own s vf vs S dv dvs=>by
 refine dv.on λ_=>?_;obtain⟨v1,rfl,d1⟩:=dvs.one;refine d1.on λ_=>?_;exact PySem.SC.lower hf (S.val (.str _ _) h)
theorem C_find(h:Q (.int (Txt.find x y)) σ):OC c (.blt "str.find") [.str x,.str y] ρ σ Q X:=.mk λg R own s vf vs S dv dvs=>by
 refine dv.on λ_=>?_;obtain⟨v1,v2,rfl,d1,d2⟩:=dvs.two;refine d1.on λ_=>?_;refine d2.on λ_=>?_;exact PySem.SC.find (S.val (.int _ _) h)
theorem qGH(h:Q (.bool (Txt.startswith x y)) σ):OC c (.blt "str.startswith") [.str x,.str y] ρ σ Q X:=.mk λg R own s vf vs S dv dvs=>by
 refine dv.on λ_=>?_;obtain⟨v1,v2,rfl,d1,d2⟩:=dvs.two;refine d1.on λ_=>?_;refine d2.on λ_=>?_;exact PySem.SC.startswith (S.val0 (.bool _) h)
theorem strs_dvs(l:List (Str × Tok)):DVs g ((l.map (·.1)).map .str) (strValues l):=by
 induction l with
 |nil=>exact .nil
 |cons p r ih=>exact .cons (.str _ _) ih
theorem qIT{M':Program}{t u:Tok}{Q:Value→Shared→Prop}(hy:(y.length==0)=false)(hz:x.length≤sizeLine)(hz2:(Builtin.Str.partsBetween x (Builtin.Str.occurrences x y 0 x.length (x.length+1)) y.length).length≤sizeLine)
  (hq:∀(l:List (Str × Tok)) k,l.map (·.1)=Txt.split x y→Q (.ref s.heap.objs.size) {s with heap:=s.heap.push {cls:=.type "list",data:=.seq (strValues l).toArray},toks:=k}):wpAny (model M' w) A (call (.builtin "str.split") [.str x t,.str y u]) Q E s:=by
 have back:=λn=>PySem.F.args_str_split_2 (.str x t) (.str y n)
 cases k1:(decide (x.length < y.length) || decide (Builtin.Str.strKind x < Builtin.Str.strKind y))
 ·cases k2:(Builtin.Str.occurrences x y 0 x.length (x.length+1)).isEmpty
  ·refine call_meets PySem.F.slot_str_split rfl PySem.F.entry_str_split (back u) (meets_str_split_sep x y t u k1 hy k2 hz hz2) ?_
   have q:=hq (numbered s.toks (Builtin.Str.partsBetween x (Builtin.Str.occurrences x y 0 x.length (x.length+1)) y.length)) (s.toks+(Builtin.Str.partsBetween x (Builtin.Str.occurrences x y 0 x.length (x.length+1)) y.length).length) ((numbered_texts _ _).trans ((if_neg (ne_true_of_eq_false k1)).trans (if_neg (ne_true_of_eq_false k2))).symm)
   rw[←strsFrom_eq]at q
   exact q
  ·exact call_meets PySem.F.slot_str_split rfl PySem.F.entry_str_split (back u) (meets_str_split_not_found x y t u k1 hy k2) (hq [(x,t)] s.toks ((if_neg (ne_true_of_eq_false k1)).trans (if_pos k2)).symm)
 ·exact call_meets PySem.F.slot_str_split rfl PySem.F.entry_str_split (back u) (meets_str_split_cannot_occur x y t u k1) (hq [(x,t)] s.toks (if_pos k1).symm)
theorem qH3(hy:(y.length==0)=false)(hz:x.length≤sizeLine)(hz2:(Builtin.Str.partsBetween x (Builtin.Str.occurrences x y 0 x.length (x.length+1)) y.length).length≤sizeLine)
  (h:Q (.lst ((Txt.split x y).map .str)) σ):OC c (.blt "str.split") [.str x,.str y] ρ σ Q X:=.mk λg R own s vf vs S dv dvs=>by
 refine dv.on λ_=>?_;obtain⟨v1,v2,rfl,d1,d2⟩:=dvs.two;refine d1.on λ_=>?_;refine d2.on λ_=>?_
 refine qIT hy hz hz2 λl k hl=>?_
 obtain⟨g2,l2,S2,e⟩:=S.newObj (o:= {cls:=.type "list",data:=.seq (strValues l).toArray}) rfl
 exact(.mk g2 _ σ l2 (S2.toks k) (.lst (y13 _ e rfl ⟨_,rfl⟩) (hl▸strs_dvs l)) h)
theorem qBQ(h:σ a=some (.list ds))(hz:ds.length≤sizeLine)(q:Q .none (σ.set a (.list (ds++ [d])))):OC c (.blt "list.append") [.obj a,d] ρ σ Q X:=.mk λg R own s vf vs S dv dvs=>by
 refine dv.on λ_=>?_;obtain⟨v1,v2,rfl,d1,d2⟩:=dvs.two;refine d1.on λ_=>?_
 obtain⟨us,k,h1,hv⟩:=S.rel.rep a _ h
 refine append_at h1 (λh' hs ho=>?_) (by rw[←Array.length_toList,hv.length];exact hz)
 refine(.mk g .none _ (Le.refl g) ⟨S.ok,?_,S.wd,S.gens,S.os,S.locs,S.frs⟩ .none q)
 exact S.rel.turn h (λb hb=>hb) (λb ob hb e=>(hs.2 b (λz=>hb (by simp[MO.at,z]))).trans e) (y22 _ _ ho (by rw[Array.toList_push];exact hv.append (.cons d2 .nil)))
end
section
variable {K V:Type} [DecidableEq K]
noncomputable def pget(es:List (K × V))(k:K):Option V:=(es.find? λkv=>kv.1=k).map (·.2)
noncomputable def pset(es:List (K × V))(k:K)(v:V):List (K × V):=if es.any (λkv=>kv.1=k)then es.map (λkv=>if kv.1=k then(kv.1,v)else kv)else es++ [(k,v)]
noncomputable def pdel(es:List (K × V))(k:K):List (K × V):=es.filter λkv=>kv.1≠k
end
section
variable {K:Type} [DecidableEq K]
theorem Prs.append{es fs:List (K × D)}{kvs lvs:List (K × Value)}(h:Prs g es kvs)(k:Prs g fs lvs):Prs g (es++fs) (kvs++lvs):=by
 induction h with
 |nil=>exact k
 |cons d _ ih=>exact .cons d ih
theorem Prs.find{k:K}{es:List (K × D)}{kvs:List (K × Value)}(h:Prs g es kvs):(pget es k=none∧valueAt kvs k=none)∨∃d v,pget es k=some d∧valueAt kvs k=some v∧DV g d v:=by
 induction h with
 |nil=>exact .inl ⟨rfl,rfl⟩
 | @cons k' d v es kvs dv r ih=>
  unfold pget valueAt at ih ⊢
  by_cases e:k'=k
  ·subst e;exact .inr (y23 d v (by simp) (by simp) dv)
  ·simpa [e] using ih
theorem Prs.any{p:K→Bool}{es:List (K × D)}{kvs:List (K × Value)}(h:Prs g es kvs):es.any (λkv=>p kv.1)=kvs.any λkv=>p kv.1:=by
 induction h with
 |nil=>rfl
 |cons d _ ih=>rw[List.any_cons,List.any_cons,ih]
theorem Prs.set{k:K}{es:List (K × D)}{kvs:List (K × Value)}(h:Prs g es kvs)(dv:DV g d v):Prs g (pset es k d) (stored kvs k v):=by
 have q:=h.any (p:=λx=>decide (x=k))
 have m:Prs g (es.map λkv=>if kv.1=k then(kv.1,d)else kv) (kvs.map λkv=>if kv.1=k then(kv.1,v)else kv):=by
  clear q
  induction h with
  |nil=>exact .nil
  | @cons k' d' v' es kvs dv' r ih=>
   rw[List.map_cons,List.map_cons]
   by_cases e:k'=k
   ·simp only[e,if_true];exact .cons dv ih
   ·simp only[e,if_false];exact .cons dv' ih
 unfold pset stored
 rw[q]
 split
 ·exact m
 ·exact h.append (.cons dv .nil)
theorem Prs.del{k:K}{es:List (K × D)}{kvs:List (K × Value)}(h:Prs g es kvs):Prs g (pdel es k) (without kvs k):=by
 unfold pdel without
 induction h with
 |nil=>exact .nil
 | @cons k' d' v' es kvs dv' r ih=>
  by_cases e:k'=k
  ·simpa [List.filter_cons,e] using ih
  ·simpa [List.filter_cons,e] using Prs.cons dv' ih
theorem Prs.len{es:List (K × D)}{kvs:List (K × Value)}(h:Prs g es kvs):kvs.length=es.length:=by
 induction h with
 |nil=>rfl
 |cons _ _ ih=>rw[List.length_cons,List.length_cons,ih]
end
section
variable {n m:Int}{y:Str}{es:List (Str × D)}{fs:List (Int × D)}
theorem St.notSys{mo:MO}(S:St c g R ρ σ own s)(h:σ a=some mo):(a==sysModules)=false:=by
 have e:g.get? sysModules=some _:=S.wd.K 1 _ rfl
 refine beq_eq_false_iff_ne.mpr λq=>?_
 have:a∈mo.at a:=MO.self _ _
 rw[q]at h this
 rw[(S.rel.off _ _ h _ this).1]at e;cases e
theorem qHf(x:Str)(t:Tok):(strKind pw c.w).is x (.str x t)=true:=by show(x==x)=true;simp
theorem intIs(n:Int)(t:Tok):(intKind pw c.w).is n (.int n t)=true:=by show(n==n)=true;simp
theorem Prs.some{K:Type} [DecidableEq K]{k:K}{es:List (K × D)}{kvs:List (K × Value)}(h:Prs g es kvs):(valueAt kvs k).isSome=(pget es k).isSome:=by
 rcases h.find (k:=k)with⟨a,b⟩| ⟨d,v,a,b,_⟩ <;> rw[a,b] <;> rfl
theorem O_inS(h:σ a=some (.dstr es))(q:Q (.bool (pget es x).isSome) σ):O2 c (compareOp .In) (.str x) (.obj a) ρ σ Q X:=.mk λg R own s va vb S da db=>by
 refine da.on λ_=>?_;refine db.on λ_=>?_
 obtain⟨kvs,hd,pr⟩:=S.rel.rep a _ h
 exact wpAny_in_of (k:=x) (qHf x _) (S.notSys h) hd.mapOf (by rw[pr.some];exact S.val (.bool _) q)
theorem O_ninS(h:σ a=some (.dstr es))(q:Q (.bool (!(pget es x).isSome)) σ):O2 c (compareOp .NotIn) (.str x) (.obj a) ρ σ Q X:=.mk λg R own s va vb S da db=>by
 refine da.on λ_=>?_;refine db.on λ_=>?_
 obtain⟨kvs,hd,pr⟩:=S.rel.rep a _ h
 exact wpAny_notIn_of (k:=x) (qHf x _) (S.notSys h) hd.mapOf (by rw[pr.some];exact S.val (.bool _) q)
theorem O_inI(h:σ a=some (.dint fs))(q:Q (.bool (pget fs n).isSome) σ):O2 c (compareOp .In) (.int n) (.obj a) ρ σ Q X:=.mk λg R own s va vb S da db=>by
 refine da.on λ_=>?_;refine db.on λ_=>?_
 obtain⟨kvs,hd,pr⟩:=S.rel.rep a _ h
 exact wpAny_in_of (k:=n) (intIs n _) (S.notSys h) hd.mapOf (by rw[pr.some];exact S.val (.bool _) q)
theorem O_ninI(h:σ a=some (.dint fs))(q:Q (.bool (!(pget fs n).isSome)) σ):O2 c (compareOp .NotIn) (.int n) (.obj a) ρ σ Q X:=.mk λg R own s va vb S da db=>by
 refine da.on λ_=>?_;refine db.on λ_=>?_
 obtain⟨kvs,hd,pr⟩:=S.rel.rep a _ h
 exact wpAny_notIn_of (k:=n) (intIs n _) (S.notSys h) hd.mapOf (by rw[pr.some];exact S.val (.bool _) q)
theorem G_dS(h:σ a=some (.dstr es))(e:pget es x=some d)(q:Q d σ):O2 c getItem (.obj a) (.str x) ρ σ Q X:=.mk λg R own s va vb S da db=>by
 refine da.on λ_=>?_;refine db.on λ_=>?_
 obtain⟨kvs,hd,pr⟩:=S.rel.rep a _ h
 rcases pr.find (k:=x)with⟨e1,_⟩| ⟨d',v,e1,e2,dv⟩
 ·rw[e]at e1;cases e1
 ·rw[e]at e1;injection e1 with e1;subst e1
  exact wpAny_getItem_of (k:=x) (qHf x _) hd.mapOf e2 (S.val dv q)
def P3.Ar(Z:Prop)(c:Cx)(g:Heap)(R:Pv)(ρ:Ro)(own:Pv)(N:Sg→Prop)(s':Shared):Prop:=∀(g':Heap) (σ':Sg) (l:Le g g') (S:St c g' R ρ σ' own s') (n:N σ'),Z
@[irreducible] def P3 (c:Cx) (g:Heap) (R:Pv) (ρ:Ro) (own:Pv) (N:Sg→Prop) (s':Shared):Prop:=∀Z,P3.Ar Z c g R ρ own N s'→Z
theorem P3.mk{N:Sg→Prop}:P3.Ar (P3 c g R ρ own N s') c g R ρ own N s':=by delta P3;exact λg' σ' l S n _ k=>k g' σ' l S n
theorem P3.el{N:Sg→Prop}(h:P3 c g R ρ own N s'):P3.Ar Z c g R ρ own N s'→Z:=by delta P3 at h;exact h Z
def O3.Ar(c:Cx)(f:Value→Value→Value→Sem Unit)(a b d:D)(ρ:Ro)(σ:Sg)(N:Sg→Prop):Prop:=∀g R own s va vb vd,St c g R ρ σ own s→DV g a va→DV g b vb→DV g d vd→wpAny (model pw c.w) c.A (f va vb vd) (λ_ s'=>P3 c g R ρ own N s') (λ_ _=>False) s
@[irreducible] def O3 (c:Cx) (f:Value→Value→Value→Sem Unit) (a b d:D) (ρ:Ro) (σ:Sg) (N:Sg→Prop):Prop:=O3.Ar c f a b d ρ σ N
theorem O3.mk{f:Value→Value→Value→Sem Unit}{a b:D}{N:Sg→Prop}(h:O3.Ar c f a b d ρ σ N):O3 c f a b d ρ σ N:=by delta O3;exact h
theorem O3.go{f:Value→Value→Value→Sem Unit}{a b:D}{N:Sg→Prop}(h:O3 c f a b d ρ σ N):O3.Ar c f a b d ρ σ N:=by delta O3 at h;exact h
theorem St.turn{mo mo':MO}{tk:Nat}(S:St c g R ρ σ own s)(h:σ a=some mo)(h1:mo.at a= [a])(h2:mo'.at a= [a])(r:MRep c.w g h' a mo')(hs:Heap.SameBut a s.heap h'):St c g R ρ (σ.set a mo') own {s with heap:=h',toks:=tk}:=
 St.toks (s:= {s with heap:=h'}) ⟨S.ok,S.rel.turn h (λb hb=>by rw[h2]at hb;rw[h1];exact hb) (λb ob hb e=>(hs.2 b (λz=>hb (by rw[h1,z];exact List.mem_singleton.mpr rfl))).trans e) r,S.wd,S.gens,S.os,S.locs,S.frs⟩ tk
theorem I_dS{N:Sg→Prop}(h:σ a=some (.dstr es))(hz:es.length≤sizeLine)(q:N (σ.set a (.dstr (pset es x d)))):O3 c setItem (.obj a) (.str x) d ρ σ N:=.mk λg R own s va vb vd S da db dd=>by
 refine da.on λ_=>?_;refine db.on λ_=>?_
 obtain⟨kvs,hd,pr⟩:=S.rel.rep a _ h
 exact wpAny_setItem_pairs (k:=x) (qHf x _) hd (λh' hd' hs=>(.mk g _ (Le.refl g) (S.turn (mo':=.dstr (pset es x d)) h rfl rfl (y12 _ hd' (pr.set dd)) hs) q)) (by rw[pr.len];exact hz)
theorem I_dI{N:Sg→Prop}(h:σ a=some (.dint fs))(hz:fs.length≤sizeLine)(q:N (σ.set a (.dint (pset fs n d)))):O3 c setItem (.obj a) (.int n) d ρ σ N:=.mk λg R own s va vb vd S da db dd=>by
 refine da.on λ_=>?_;refine db.on λ_=>?_
 obtain⟨kvs,hd,pr⟩:=S.rel.rep a _ h
 exact wpAny_setItem_pairs (k:=n) (intIs n _) hd (λh' hd' hs=>(.mk g _ (Le.refl g) (S.turn (mo':=.dint (pset fs n d)) h rfl rfl (y12 _ hd' (pr.set dd)) hs) q)) (by rw[pr.len];exact hz)
abbrev kSubS3(c:Cx)(ρ:Ro)(N:Ro→Sg→Prop)(d od:D):D→Sg→Prop:=λid φ=>O3 c setItem od id d ρ φ (N ρ)
abbrev kSubS2(c:Cx)(i:Expr)(ρ:Ro)(N:Ro→Sg→Prop)(X:Addr→Sg→Prop)(d:D):D→Sg→Prop:=λod υ=>WE c i ρ υ (kSubS3 c ρ N d od) X
abbrev kSubS(c:Cx)(o i:Expr)(ρ:Ro)(N:Ro→Sg→Prop)(X:Addr→Sg→Prop):D→Sg→Prop:=λd τ=>WE c o ρ τ (kSubS2 c i ρ N X d) X
theorem qD7{o i:Expr}{p':Pos}{X:Ro→Addr→Sg→Prop}
  (h:WE c e ρ σ (kSubS c o i ρ N (X ρ)) (X ρ))
  (hs:autoParam (pure false=swapsWith e (some (.Subscript o i p')) p.line c.env) auR):ST c (.Assign [.Subscript o i p'] e p) ρ σ N Rt X:=.mk λg R own s S=>
 wpAny_Assign_Subscript (h.use S (λg1 d τ v s1 l1 S1 dv q=>q.use S1 (λg2 od υ ov s2 l2 S2 dov q2=>q2.use S2 (λg3 id φ iv s3 l3 S3 div q3=>
  wpAny_mono (q3.go g3 R own s3 ov iv v S3 (dov.mono l3) div ((dv.mono l2).mono l3)) (λ_ s4 p9=>p9.el λg4 ψ l4 S4 n=>(.mk g4 own ρ ψ (((l1.trans l2).trans l3).trans l4) S4 n)) λ_ _ x=>x.elim)
  λ_ _ x=>((x.le l2).le l1).toS) λ_ _ x=>(x.le l1).toS) λ_ _ x=>x.toS) hs.symm
theorem C_popS(h:σ a=some (.dstr es))(e:pget es x=some d)(hz:es.length≤sizeLine)(q:Q d (σ.set a (.dstr (pdel es x)))):OC c (.blt "dict.pop") [.obj a,.str x] ρ σ Q X:=.mk λg R own s vf vs S dv dvs=>by
 refine dv.on λ_=>?_;obtain⟨v1,v2,rfl,d1,d2⟩:=dvs.two;refine d1.on λ_=>?_;refine d2.on λ_=>?_
 obtain⟨kvs,hd,pr⟩:=S.rel.rep a _ h
 rcases pr.find (k:=x)with⟨e1,_⟩| ⟨d',v,e1,e2,dv⟩
 ·rw[e]at e1;cases e1
 ·rw[e]at e1;injection e1 with e1;subst e1
  exact call_meetsIn PySem.F.slot_dict_pop hd.typeIs PySem.F.entry_dict_pop (PySem.F.args_dict_pop_2 _ _) (meets_dict_pop_there (strKind pw c.w) a (k:=x) (qHf x _) [] (.inl rfl) rfl) (y24 kvs v hd (by rw[pr.len];exact hz) e2 (λh' hd' hs=>
   (.mk g d _ (Le.refl g) (S.turn (mo':=.dstr (pdel es x)) h rfl rfl (y12 _ hd' pr.del) hs) dv q)))
end
theorem qDP(slice:Expr)(o i:Value):∃ops,subscripted slice false o i=operate ops (getItem o i):=by
 cases slice with
 |Slice a b st=>cases st <;> exact⟨_,rfl⟩
 |_=>exact⟨_,rfl⟩
def qGy(c:Cx)(σ:Sg)(od:D):Prop:=∀g R own ρ s v,St c g R ρ σ own s→DV g od v→∃T id,s.TypeIs v T∧typeLookup (.type T) "__getitem__"=pure (some (.builtin id))
section
variable {n m:Int}{y:Str}
theorem SO_tup:qGy c σ (.tup ds):=λg R own ρ s v S dv=>by
 refine dv.on λ_ _ ht hv=>?_
 exact(y22 "tuple" _ ((ht.keeps S.rel.keep).typeIs) slot_tuple_getitem.lookup)
theorem SO_lst:qGy c σ (.lst ds):=λg R own ρ s v S dv=>by
 refine dv.on λ_ _ ht hv=>?_
 exact(y22 "list" _ ((ht.at (S.rel.keep _)).typeIs) PySem.F.slot_list_getitem.lookup)
theorem SO_str:qGy c σ (.str x):=λg R own ρ s v S dv=>by
 refine dv.on λ_=>?_;exact(y22 "str" _ rfl PySem.F.slot_str_getitem.lookup)
theorem SO_bytes:qGy c σ (.bytes b):=λg R own ρ s v S dv=>by
 refine dv.on λ_=>?_;exact(y22 "bytes" _ rfl FB.slot_bytes_getitem.lookup)
theorem qAw(h:σ a=some (.list ds)):qGy c σ (.obj a):=λg R own ρ s v S dv=>by
 refine dv.on λ_=>?_
 obtain⟨us,k,h1,hv⟩:=S.rel.rep a _ h
 exact(y22 "list" _ (y12 _ h1 rfl) PySem.F.slot_list_getitem.lookup)
theorem qJa{es:List (Str × D)}(h:σ a=some (.dstr es)):qGy c σ (.obj a):=λg R own ρ s v S dv=>by
 refine dv.on λ_=>?_
 obtain⟨kvs,hd,_⟩:=S.rel.rep a _ h
 exact(y22 "dict" _ hd.typeIs PySem.F.slot_dict_getitem.lookup)
def SubP.Ar(Z:Prop)(c:Cx)(X:Addr→Sg→Prop)(ρ:Ro)(Q:D→Sg→Prop)(od id:D)(υ:Sg):Prop:=∀(so:qGy c υ od) (h:O2 c getItem od id ρ υ Q X),Z
@[irreducible] def SubP (c:Cx) (X:Addr→Sg→Prop) (ρ:Ro) (Q:D→Sg→Prop) (od id:D) (υ:Sg):Prop:=∀Z,SubP.Ar Z c X ρ Q od id υ→Z
theorem SubP.mk{od id:D}{υ:Sg}:SubP.Ar (SubP c X ρ Q od id υ) c X ρ Q od id υ:=by delta SubP;exact λso h _ k=>k so h
theorem SubP.el{od id:D}{υ:Sg}(hh:SubP c X ρ Q od id υ):SubP.Ar Z c X ρ Q od id υ→Z:=by delta SubP at hh;exact hh Z
abbrev kSub(c:Cx)(X:Addr→Sg→Prop)(ρ:Ro)(i:Expr)(Q:D→Sg→Prop):D→Sg→Prop:=λod τ=>WE c i ρ τ (SubP c X ρ Q od) X
theorem WE_Sub{o i:Expr}(h:WE c o ρ σ (kSub c X ρ i Q) X):WE c (.Subscript o i p) ρ σ Q X:=.mk λg R own s S=>
 Subscript_ (h.use S (λg1 od τ vo s1 l1 S1 dvo q=>q.use S1 (λg2 id υ vi s2 l2 S2 dvi o1'=>o1'.el λso q2=>by
  obtain⟨T,id',hT,hl⟩:=so g2 R own ρ s2 vo S2 (dvo.mono l2)
  obtain⟨ops,hops⟩:=qDP i vo vi
  have hg:=wpAny_mono (q2.go g2 R own s2 vo vi S2 (dvo.mono l2) dvi) (Q':=λr s'=>wpAny (model pw c.w) c.A (letTemporaryGo o vo r >>=λ_=>pure r) (PE c g R ρ own Q) (PX c g R ρ own X) s')
   (λr s' pe=>wpAny_bind (wpAny_letTemporaryGo (wpAny_pure ((pe.le l2).le l1)))) (E':=PX c g R ρ own X) λ_ _ x=>(x.le l2).le l1
  refine wpAny_bind ?_
  rw[getitemInPython_of_ne hT.not_modules]
  refine wpAny_bind (wpAny_specialOf hT hl ?_)
  have fin:wpAny (model pw c.w) c.A (subscripted i false vo vi) (λr s'=>wpAny (model pw c.w) c.A (letTemporaryGo o vo r >>=λ_=>pure r) (PE c g R ρ own Q) (PX c g R ρ own X) s') (PX c g R ρ own X) s2:=by
   rw[hops];exact wpAny_operating hg
  first
   |exact wpAny_pure (wpAny_bind fin)
   |exact wpAny_bind (wpAny_pure (wpAny_bind fin))
   |exact wpAny_bind fin) λ_ _ x=>x.le l1) λ_ _ x=>x)
theorem qBK(hk:seqIndex? n ds.length=some k)(hd:ds[k]? =some d)(hn: -(2 ^ 63)≤n∧n < 2 ^ 63)(q:Q d σ):O2 c getItem (.tup ds) (.int n) ρ σ Q X:=.mk λg R own s va vb S da db=>by
 refine db.on λ_=>?_;refine da.on λa us ht hv=>?_
 obtain⟨v,e,dv⟩:=hv.get hd
 exact PyProof.Rows.getItem_tuple (ht.keeps S.rel.keep) hn.1 hn.2 (by rw[List.size_toArray,hv.length];exact hk) (by simpa using e) (S.val0 dv q)
theorem gt0(hk:seqIndex? n ds.length=some 0)(hd:ds[0]? =some d)(hn: -(2 ^ 63)≤n∧n < 2 ^ 63)(q:Q d σ):O2 c getItem (.tup ds) (.int n) ρ σ Q X:=qBK hk hd hn q
theorem gt1(hk:seqIndex? n ds.length=some 1)(hd:ds[1]? =some d)(hn: -(2 ^ 63)≤n∧n < 2 ^ 63)(q:Q d σ):O2 c getItem (.tup ds) (.int n) ρ σ Q X:=qBK hk hd hn q
theorem gt2(hk:seqIndex? n ds.length=some 2)(hd:ds[2]? =some d)(hn: -(2 ^ 63)≤n∧n < 2 ^ 63)(q:Q d σ):O2 c getItem (.tup ds) (.int n) ρ σ Q X:=qBK hk hd hn q
theorem gt3(hk:seqIndex? n ds.length=some 3)(hd:ds[3]? =some d)(hn: -(2 ^ 63)≤n∧n < 2 ^ 63)(q:Q d σ):O2 c getItem (.tup ds) (.int n) ρ σ Q X:=qBK hk hd hn q
theorem gt4(hk:seqIndex? n ds.length=some 4)(hd:ds[4]? =some d)(hn: -(2 ^ 63)≤n∧n < 2 ^ 63)(q:Q d σ):O2 c getItem (.tup ds) (.int n) ρ σ Q X:=qBK hk hd hn q
theorem gt5(hk:seqIndex? n ds.length=some 5)(hd:ds[5]? =some d)(hn: -(2 ^ 63)≤n∧n < 2 ^ 63)(q:Q d σ):O2 c getItem (.tup ds) (.int n) ρ σ Q X:=qBK hk hd hn q
theorem qE4(hk:n=k)(hd:ds[k]? =some d)(hn:n < 2 ^ 63)(q:Q d σ):O2 c getItem (.lst ds) (.int n) ρ σ Q X:=.mk λg R own s va vb S da db=>by
 subst hk
 refine db.on λ_=>?_;refine da.on λa us ht hv=>?_
 obtain⟨v,e,dv⟩:=hv.get hd
 exact wpAny_getItem_list (ht.at (S.rel.keep _)) (by omega) hn (by simpa using e) (S.val0 dv q)
theorem qBb(h:σ a=some (.list ds))(hk:n=k)(hd:ds[k]? =some d)(hn:n < 2 ^ 63)(q:Q d σ):O2 c getItem (.obj a) (.int n) ρ σ Q X:=.mk λg R own s va vb S da db=>by
 subst hk
 refine db.on λ_=>?_;refine da.on λ_=>?_
 obtain⟨us,k',h1,hv⟩:=S.rel.rep a _ h
 obtain⟨v,e,dv⟩:=hv.get hd
 exact wpAny_getItem_list (items:=us) (y13 _ h1 rfl ⟨_,rfl⟩) (by omega) hn (by simpa using e) (S.val0 dv q)
theorem G_str{ch:Nat}(hk:n=k)(hc:x.cps[k]? =some ch)(hn:n < 2 ^ 63)(q:Q (.str ⟨#[ch]⟩) σ):O2 c getItem (.str x) (.int n) ρ σ Q X:=.mk λg R own s va vb S da db=>by
 subst hk
 refine db.on λ_=>?_;refine da.on λ_=>?_
 have hlt:k < x.length:=(Array.getElem?_eq_some_iff.mp hc).1
 refine PyProof.Rows.getItem_str (c:=ch) (by simp;omega) ?_ (S.val (.str _ _) q)
 unfold seqIndex?
 have e1:¬((k:Int) < 0):=by omega
 simp[e1,hlt,hc]
theorem qBT(hk:n=k)(hlt:k < b.size)(hz:b.size≤sizeLine)(q:Q (.int (b.toList.getD k 0).toNat) σ):O2 c getItem (.bytes b) (.int n) ρ σ Q X:=.mk λg R own s va vb S da db=>by
 subst hk
 refine db.on λ_=>?_;refine da.on λ_=>?_
 obtain⟨l⟩:=b
 have hz':l.length≤1099511627776:=by rw[sizeLine_eq]at hz;have:l.length≤16777216:=hz;omega
 exact getItem_bytes (l:=l) hz' (by omega) (by have:k < l.length:=hlt;omega) (S.val (.int _ _) q)
def WP.Ar(c:Cx)(e:Option Expr)(ρ:Ro)(σ:Sg)(Q:Option Int→Sg→Prop)(X:Addr→Sg→Prop):Prop:=∀g R own s,St c g R ρ σ own s→wpAny (model pw c.w) c.A (evalPart e c.env) (λv s'=>∃g' i τ,Le g g'∧St c g' R ρ τ own s'∧IsPart v i∧Q i τ) (PX c g R ρ own X) s
@[irreducible] def WP (c:Cx) (e:Option Expr) (ρ:Ro) (σ:Sg) (Q:Option Int→Sg→Prop) (X:Addr→Sg→Prop):Prop:=WP.Ar c e ρ σ Q X
theorem WP.mk{e:Option Expr}{Q:Option Int→Sg→Prop}(h:WP.Ar c e ρ σ Q X):WP c e ρ σ Q X:=by delta WP;exact h
theorem WP.go{e:Option Expr}{Q:Option Int→Sg→Prop}(h:WP c e ρ σ Q X):WP.Ar c e ρ σ Q X:=by delta WP at h;exact h
theorem WP_none{Q:Option Int→Sg→Prop}(h:Q none σ):WP c none ρ σ Q X:=.mk λg R own s S=>wpAny_evalPart_none (y34 g none σ (Le.refl g) S .none h)
def IntP.Ar(Z:Prop)(Q:Option Int→Sg→Prop)(d:D)(τ:Sg):Prop:=∀(i:Int) (e:d= .int i) (q:Q (some i) τ),Z
@[irreducible] def IntP (Q:Option Int→Sg→Prop) (d:D) (τ:Sg):Prop:=∀Z,IntP.Ar Z Q d τ→Z
theorem IntP.mk{Q:Option Int→Sg→Prop}:IntP.Ar (IntP Q d τ) Q d τ:=by delta IntP;exact λi e q _ k=>k i e q
theorem IntP.el{Q:Option Int→Sg→Prop}(h:IntP Q d τ):IntP.Ar Z Q d τ→Z:=by delta IntP at h;exact h Z
theorem WP_some{Q:Option Int→Sg→Prop}(h:WE c e ρ σ (IntP Q) X):WP c (some e) ρ σ Q X:=.mk λg R own s S=>
 wpAny_evalPart_some (h.use S (λg1 d τ v s1 l1 S1 dv o2'=>o2'.el λi e q=>by subst e;refine dv.on λ_=>?_;exact(y34 g1 (some i) τ l1 S1 (.int _ _) q)) λ_ _ x=>x)
abbrev kSlc2(Q:D→Sg→Prop)(l:Option Int):Option Int→Sg→Prop:=λu υ=>Q (.slc l u) υ
abbrev kSlc(c:Cx)(hi:Option Expr)(ρ:Ro)(Q:D→Sg→Prop)(X:Addr→Sg→Prop):Option Int→Sg→Prop:=λl τ=>WP c hi ρ τ (kSlc2 Q l) X
theorem WE_Slice{lo hi:Option Expr}(h:WP c lo ρ σ (kSlc c hi ρ Q X) X):WE c (.Slice lo hi none p) ρ σ Q X:=.mk λg R own s S=>
 wpAny_Slice (wpAny_mono (h.go g R own s S) (λvl s1 o3'=>x3_4 o3' λg1 l τ l1 S1 pl q=>wpAny_mono (q.go g1 R own s1 S1) (λvu s2 o4'=>x3_4 o4' λg2 u υ l2 S2 pu q2=>wpAny_evalPart_none (by
  obtain⟨g3,l3,S3,e⟩:=S2.newObj (o:= {cls:=.type "slice",data:=.fields #[vl,vu,.none]}) rfl
  exact(.mk g3 _ υ ((l1.trans l2).trans l3) S3 (.slc (y13 _ e rfl rfl) pl pu) q2))) λ_ _ x=>x.le l1) λ_ _ x=>x)
theorem qDJ{lo hi:Option Int}(hz:b.size≤sizeLine)(q:Q (.bytes (KBy.picked b lo hi)) σ):O2 c getItem (.bytes b) (.slc lo hi) ρ σ Q X:=.mk λg R own s va vb S da db=>by
 refine da.on λ_=>?_;refine db.on λ_ _ _ hs pl pu=>?_
 obtain⟨o,ho,r⟩:=hs
 exact getItem_meets (typeIs_bytes _ _ _) (by decide) FB.slot_bytes_getitem FB.entry_bytes_getitem (FB.args_bytes_getitem_2 _ _) (KBc.meets_slice2 b _ _ pl pu)
  (y03 (y12 o (S.rel.keep _ _ ho) r) (Nat.le_trans (KBc.size_picked_le b lo hi) hz) (λt' k=>S.val (.bytes _ _) q))
theorem qDK{lo hi:Option Int}(q:Q (.str (Txt.slice x lo hi)) σ)(hz:x.length≤sizeLine):O2 c getItem (.str x) (.slc lo hi) ρ σ Q X:=.mk λg R own s va vb S da db=>by
 refine da.on λt=>?_
 refine db.on λ_ _ _ hs pl pu=>?_
 obtain⟨o,ho,hc,hd⟩:=hs
 have key:∀(l u:Option (Int × Tok)),l.map (·.1)=lo→u.map (·.1)=hi→o.data= .fields #[partValue l,partValue u,.none]→wpAny (model pw c.w) c.A (getItem (.str x t) (.ref _)) (PE c g R ρ own Q) (PX c g R ρ own X) s:=λl u e1 e2 e3=>by
  refine wpAny_getItem_str_slice (l:=l) (u:=u) (st:=none) (y13 o (S.rel.keep _ _ ho) hc e3) rfl ?_
  unfold sliceMade slicePicked
  rw[e1,e2]
  unfold Txt.slice at q
  by_cases k:((1:Int)==1 && (Builtin.Str.strSliceIndices lo hi 1 x.length).length==x.length)=true
  ·rw[if_pos k]at q
   rw[if_pos (by exact k)]
   exact S.val0 (.str _ _) q
  ·rw[if_neg k]at q
   rw[if_neg (by exact k)]
   exact⟨Nat.le_trans (by show(List.filterMap _ _).toArray.size≤x.length;rw[List.size_toArray];exact Nat.le_trans (List.length_filterMap_le _ _) (sliceIndices_le lo hi x.length)) hz,S.val (n:=s.toks+1) (.str _ s.toks) q⟩
 cases pl with
 |none=>cases pu with
  |none=>exact key none none rfl rfl hd
  |int i u=>exact key none (some (i,u)) rfl rfl hd
 |int j v=>cases pu with
  |none=>exact key (some (j,v)) none rfl rfl hd
  |int i u=>exact key (some (j,v)) (some (i,u)) rfl rfl hd
theorem G_sliceT(h1:1≤k)(h2:k≤ds.length)(hz:ds.length≤sizeLine)(q:Q (.tup (ds.drop k)) σ):O2 c getItem (.tup ds) (.slc (some k) none) ρ σ Q X:=.mk λg R own s va vb S da db=>by
 refine da.on λa us ht hv=>?_
 refine db.on λ_ _ _ hs pl pu=>?_
 cases pl;cases pu
 obtain⟨o,ho,r⟩:=hs
 refine getItem_tuple_from (a:=k) (ht.keeps S.rel.keep) (y12 o (S.rel.keep _ _ ho) r) h1 (by rw[List.size_toArray,hv.length];exact h2) ?_ (by rw[List.size_toArray,hv.length];exact hz)
 obtain⟨g2,l2,S2,e⟩:=S.newObj (o:= {cls:=.type "tuple",data:=.seq (us.toArray.toList.drop k).toArray}) rfl
 exact(.mk g2 _ σ l2 S2 (.tup (y13 _ e rfl ⟨_,rfl⟩) ((hv.drop k).mono l2)) q)
theorem qHW{N:Sg→Prop}(h:σ a=some (.list ds))(hk:n=k)(hlt:k < ds.length)(hn:n < 2 ^ 63)(q:N (σ.set a (.list (ds.set k d)))):O3 c setItem (.obj a) (.int n) d ρ σ N:=.mk λg R own s va vb vd S da db dd=>by
 subst hk
 refine da.on λ_=>?_;refine db.on λ_=>?_
 obtain⟨us,k',h1,hv⟩:=S.rel.rep a _ h
 have hsz:k < us.size:=by rw[←Array.length_toList,hv.length];exact hlt
 refine ki_setAt h1 (by omega) hn (by omega) ?_
 have e:Obj.mapSeq (·.setIfInBounds (k:Int).toNat vd) (listOf us k')=listOf (us.setIfInBounds k vd) k':=by
  show(⟨_,_,.seq _ (if _ then _ else _),_⟩:Obj)=_
  rw[if_pos (by simp)];rfl
 have g1:(s.heap.update a (Obj.mapSeq (·.setIfInBounds (k:Int).toNat vd))).get? a=some (listOf (us.setIfInBounds k vd) k'):=by
  rw[←e];exact Heap.get?_update_self _ h1 (by rw[e];rfl)
 refine(.mk g _ (Le.refl g) (St.turn (mo':=.list (ds.set k d)) (tk:=s.toks) S h rfl rfl (y22 _ _ g1 ?_) ⟨by rw[Heap.size_after_update],λb hb=>Heap.get?_update_other _ _ (Ne.symm hb)⟩) q)
 rw[Array.toList_setIfInBounds]
 exact hv.set k dd
end
section
open Sem (wp)
noncomputable def bmX:List Value:=[.ref 39,.type "Exception",.type "BaseException",.type "object"]
theorem bmE{C:Addr}:(Value.ref C::bmX).contains (.type "Exception")=true:=by kernel_rfl
theorem bmB{C:Addr}:(Value.ref C::bmX).contains (.type "BaseException")=true:=by kernel_rfl
theorem bmA{C:Addr}:(Value.ref C::bmX).contains (.type "AttributeError")=false:=by kernel_rfl
theorem bmN{C:Addr}:(Value.ref C::bmX).contains (.type "NameError")=false:=by kernel_rfl
theorem bmT{C:Addr}:(Value.ref C::bmX).contains (.type "type")=false:=by kernel_rfl
noncomputable abbrev xCls (nm q:Str) (C N:Addr) (k0 k2 k3 k5:Option Value):Obj:=excClassObj nm q C N [.ref 39] bmX true [] [] false none none k0 none k2 k3 k5 "Exception.__new__"
section
variable {M:Model}{g:Array GenState}{d:Drawn}{t:Nat}{nm q:Str}{C N:Addr}{k0 k2 k3 k5:Option Value}
theorem xck_new{rest:List Value}{Q:Unit→Shared→Prop}(hC:h.get? C=some (xCls nm q C N k0 k2 k3 k5))(hq:Q () ⟨h,g,d,t,os⟩):wpAny M A (checkBuiltinCall "Exception.__new__" ⟨.ref C::rest,[]⟩) Q E ⟨h,g,d,t,os⟩:=by
 have F:=PySem.F.excBase_Exception
 have hcont:(Value.ref C::bmX).contains (.type "Exception")=true:=bmE
 have hstar:=F.noStar
 unfold checkBuiltinCall
 rw[F.newKind,F.newSplit,F.newRow]
 repeat (first|refine wpAny_loadPart_at hC ?_| (refine wpAny_isSubtype_exc hC ?_;rw[hcont])|refine wpAny_staticBase_exc hC ?_|refine wpAny_madeBy_exc hC ?_|refine bm_if_true rfl ?_|refine bm_if_false rfl ?_|refine wpAny_bind ?_|refine wpAny_pure ?_)
 exact hq
end
section
variable {prog:Program}{R:Result→Shared→Prop}{g:Array GenState}{d:Drawn}{t:Nat}{nm q:Str}{C N:Addr}{k0 k2 k3 k5:Option Value}
theorem x_new{rest:List Value}(hC:h.get? C=some (xCls nm q C N k0 k2 k3 k5))
  (hq:R (.ok (.ret (.ref (h.objs.size+1)))) ⟨(h.push {cls:=.type "tuple",data:=.seq rest.toArray}).push {cls:=.ref C,data:=.fields #[.ref h.objs.size,.none,.none,.none,.bool false,.none]},g,d,t,os⟩)(hrest:rest.length≤sizeLine):
  codeAny (model prog w) A (.builtin "Exception.__new__" ⟨.ref C::rest,[]⟩) R ⟨h,g,d,t,os⟩:=by
 have F:=PySem.F.excBase_Exception
 have hends:=F.ends
 have hcB:(Value.ref C::bmX).contains (.type "Exception")=true:=bmE
 have hcA:(Value.ref C::bmX).contains (.type "AttributeError")=false:=bmA
 have hcN:(Value.ref C::bmX).contains (.type "NameError")=false:=bmN
 refine codeAny_builtinAt F.entry ?_
 refine PySem.wpAt_bind ?_
 show PySem.wpAt _ _ _ (stack >>=_) _ _ _
 refine PySem.wpAt_bind (PySem.wpAt_stack λp below=>PySem.wpAt_of_wpAny ?_)
 wp_walk
 refine PySem.wpAt_of_wpAny ?_
 rw[F.owner]
 repeat (first|with_reducible refine wpAny_madeHere_exc F.canon hC ?_|with_reducible refine wpAny_loadPart_at hC ?_| (with_reducible refine wpAny_isSubtype_exc hC ?_;first|rw[hcB]|rw[hcA]|rw[hcN])| (first|refine bm_if_true rfl ?_|refine bm_if_false rfl ?_|refine wpAny_bind ?_|refine wpAny_pure ?_|wp_step))
 show R _ _
 rw[Heap.size_push]
 exact hq
end
end
section
open Sem (wp)
section
variable {prog:Program}{g:Array GenState}{d:Drawn}{t:Nat}{nm q:Str}{C N:Addr}{k0 k2 k3 k5:Option Value}
theorem qHd{rest:List Value}{fI:Addr}{Q:Fin→Shared→Prop}(hC:h.get? C=some (xCls nm q C N k0 k2 k3 k5))
  (hi:∀h',(∀b o,h.get? b=some o→h'.get? b=some o)→W.Looks (model prog w) h' (typeLookup (.ref C) "__init__") (some (.ref fI)))(hb:∀h' self,(∀b o,h.get? b=some o→h'.get? b=some o)→W.Looks (model prog w) h' (bindSpecial (.ref fI) self) (.ref fI,[self]))
  (hq:wpAny (model prog w) A (call (.ref fI) (.ref (h.objs.size+1)::rest)) (λr s'=>r= .none∧Q (.done (.ret (.ref (h.objs.size+1)))) s') E
   ⟨(h.push {cls:=.type "tuple",data:=.seq rest.toArray}).push {cls:=.ref C,data:=.fields #[.ref h.objs.size,.none,.none,.none,.bool false,.none]},g,d,t,os⟩)(hrest:rest.length≤sizeLine):
  wpAny (model prog w) A (Builtin.«type.__call__» ⟨.ref C::rest,[]⟩) Q E ⟨h,g,d,t,os⟩:=by
 have F:=PySem.F.excBase_Exception
 repeat (first|with_reducible refine wpAny_loadPart_at hC ?_|with_reducible refine wpAny_madeBy_exc hC ?_|wp_step)
 refine codeAny_call_builtin_code (Code.quiet_builtin _ F.quiet) (xck_new hC ?_)
 refine x_new hC ?_ hrest
 have k:∀b o,h.get? b=some o→((h.push {cls:=.type "tuple",data:=.seq rest.toArray}).push {cls:=.ref C,data:=.fields #[.ref h.objs.size,.none,.none,.none,.bool false,.none]}).get? b=some o:=
  λb o e=>Heap.get?_push_of_some _ (Heap.get?_push_of_some _ e)
 have hC₁:=k _ _ hC
 have hget:((h.push {cls:=.type "tuple",data:=.seq rest.toArray}).push
   {cls:=.ref C,data:=.fields #[.ref h.objs.size,.none,.none,.none,.bool false,.none]}).get? (h.objs.size+1)=some
   {cls:=.ref C,data:=.fields #[.ref h.objs.size,.none,.none,.none,.bool false,.none]}:=by heap_get
 have hcC:(Value.ref C::bmX).contains (.ref C)=true:=by simp
 unfold isInstance
 repeat (first|with_reducible refine wpAny_loadPart_at hget ?_| (with_reducible refine wpAny_isSubtype_exc hC₁ ?_;rw[hcC])|wp_step)
 show wpAny _ _ (typeLookup (.ref C) _) _ _ _
 refine hi _ k _ _ _ _ (λ_ _ e=>e) ?_
 refine wpAny_holding (wpAny_bind (hb _ _ k _ _ _ _ (λ_ _ e=>e) ?_))
 refine wpAny_bind (wpAny_mono hq (λr s' hr=>?_) λ_ _ x=>x)
 obtain⟨rfl,hQ⟩:=hr
 wp_walk
 exact hQ
theorem x_call{rest:List Value}{fI:Addr}{R:Result→Shared→Prop}(hC:h.get? C=some (xCls nm q C N k0 k2 k3 k5))
  (hi:∀h',(∀b o,h.get? b=some o→h'.get? b=some o)→W.Looks (model prog w) h' (typeLookup (.ref C) "__init__") (some (.ref fI)))(hb:∀h' self,(∀b o,h.get? b=some o→h'.get? b=some o)→W.Looks (model prog w) h' (bindSpecial (.ref fI) self) (.ref fI,[self]))
  (hq:wpAny (model prog w) (A.under (.builtin "type.__call__" ⟨.ref C::rest,[]⟩)) (call (.ref fI) (.ref (h.objs.size+1)::rest)) (λr s'=>r= .none∧R (.ok (.ret (.ref (h.objs.size+1)))) s') (λe s'=>R (.error e) s')
   ⟨(h.push {cls:=.type "tuple",data:=.seq rest.toArray}).push {cls:=.ref C,data:=.fields #[.ref h.objs.size,.none,.none,.none,.bool false,.none]},g,d,t,os⟩)(hrest:rest.length≤sizeLine):
  codeAny (model prog w) A (.call (.ref C) ⟨rest,[]⟩) R ⟨h,g,d,t,os⟩:=by
 have f1:=tc_lookup
 have f2:=tc_bind (.ref C)
 have hT:(⟨h,g,d,t,os⟩:Shared).TypeIs (.ref C) "type":=(y12 _ hC rfl)
 refine codeAny_of_tree ?_
 show wpAny _ _ (callAny (.ref C) _) _ _ _
 repeat (any_goals (first|assumption|with_reducible refine wpAny_loadPart_at hC ?_|wp_step))
 refine⟨rfl,?_⟩
 exact codeAny_call_builtin_at (Code.quiet_builtin _ (by decide+kernel)) entry_typeCall (wpAny_check_type_call_sub hC (qHd hC hi hb hq hrest))
end
end
noncomputable def excL:List Addr:=[52,64,76]
noncomputable def excOk(K:Frag)(C:Addr):Bool:=findIn K (.ref C) "__init__"==some (some (.ref 29)) && keepIn K (.ref C)
theorem excAll(P:Params):excL.all (excOk (KF P))=true:=by kernel_rfl
theorem init29(P:Params):typeIn (KF P) (.ref 29)=some (.type "function"):=by kernel_rfl
theorem qHL(P:Params){C:Addr}(h:C∈excL):∃nm q N k0 k2 k3 k5,(KF P).lookup C=some (xCls nm q C N k0 k2 k3 k5):=by
 simp only[excL,List.mem_cons,List.not_mem_nil,or_false]at h
 rcases h with rfl|rfl|rfl <;> exact(y71 _ _ _ _ _ _ _ rfl)
theorem Kept_exc{C:Addr}(h:autoParam (C∈excL) auD):Kept c (.obj C):=qAJ (Eq.symm (by
 have:=List.all_eq_true.mp (excAll c.w.params) C h
 unfold excOk at this
 simp only[Bool.and_eq_true]at this
 exact this.2))
theorem qHc{C:Addr}(hm:C∈excL)(hz:as.length≤sizeLine)(rel:Rel w g R σ s.heap)(wd:Wd w g)(dvs:DVs g as vs)
  (h:∀x s1,σ x=none→Rel w g R (σ.set x (.exc C none [])) s1.heap→s1.gens=s.gens→s1.os=s.os→DVs g (.obj x::as) (.ref x::vs)→codeAny (model pw w) (A.under (.builtin "type.__call__" ⟨.ref C::vs,[]⟩)) (.call (.ref 29) ⟨.ref x::vs,[]⟩) (CallPost w os g R (λd τ=>d= .none∧Q (.obj x) τ) X) s1):
  codeAny (model pw w) A (.call (.ref C) ⟨vs,[]⟩) (CallPost w os g R Q X) s:=by
 have XK:=wd.K.keeps rel.keep
 obtain⟨nm,q,N,k0,k2,k3,k5,hC⟩:=qHL w.params hm
 have mk:=List.all_eq_true.mp (excAll w.params) C hm
 unfold excOk at mk
 simp only[Bool.and_eq_true]at mk
 obtain⟨hp,gs,dr,tk,os'⟩:=s
 refine x_call (fI:=29) (XK _ _ hC) (λh' k=>looks_findIn (XK.keeps k) (beq_iff_eq.mp mk.1)) (λh' self k=>bind_fn (XK.keeps k) self (init29 _)) ?_ (by rw[dvs.length];exact hz)
 have k:Le hp ((hp.push {cls:=.type "tuple",data:=.seq vs.toArray}).push {cls:=.ref C,data:=.fields #[.ref hp.objs.size,.none,.none,.none,.bool false,.none]}):=λb o e=>Heap.get?_push_of_some _ (Heap.get?_push_of_some _ e)
 have e1:((hp.push {cls:=.type "tuple",data:=.seq vs.toArray}).push {cls:=.ref C,data:=.fields #[.ref hp.objs.size,.none,.none,.none,.bool false,.none]}).get? (hp.objs.size+1)=some {cls:=.ref C,data:=.fields #[.ref hp.objs.size,.none,.none,.none,.bool false,.none]}:=by heap_get
 have f2:hp.get? (hp.objs.size+1)=none:=qAU λo q=>Nat.lt_irrefl _ (Nat.lt_trans (Nat.lt_succ_self _) (Heap.lt_size q))
 have hn:σ (hp.objs.size+1)=none:=by
  cases q:σ (hp.objs.size+1) with
  |none=>rfl
  |some o=>exact absurd (MO.self _ o) ((rel.taken f2).2.2 _ o q)
 have rel':=rel.new (a:=hp.objs.size+1) (o:=.exc C none []) k (λb hb=>by
  simp[MO.at]at hb;rw[hb];exact f2) (y12 _ e1 rfl)
 refine wpAny_call (codeAny_mono (h _ _ hn rel' rfl rfl (.cons (.obj _) dvs)) λr s' p=>?_)
 cases r with
 |error ev=>exact p
 |ok fl=>cases fl with
  |ret v=>
   refine p.el λg' d σ' l r q1 q2 dv q=>?_
   obtain⟨rfl,q⟩:=q
   refine dv.on λ_=>?_
   exact⟨rfl,.mk g' _ σ' l r q1 q2 (.obj _) q⟩
  |next=>exact p.elim
  |brk=>exact p.elim
  |cont=>exact p.elim
theorem qJp{C:Addr}(hm:C∈excL)(hz:as.length≤sizeLine)
  (h:∀x,σ x=none→FN w os lv 29 (.obj x::as) (σ.set x (.exc C none [])) (λd τ=>d= .none∧Q (.obj x) τ) X):FN w os (lv+1) C as σ Q X:=by
 intro A fr g R s vf vs rm fo rel wd hgs hos e dvs
 subst e
 exact qHc hm hz rel wd dvs λx s1 hn rel' eg eo dv'=>h x hn _ fr g R s1 _ _ rm.tc fo rel' wd (eg.trans hgs) (eo.trans hos) rfl dv'
section
open Sem (wp)
theorem xck_init{M:Model}{g:Array GenState}{d:Drawn}{t:Nat}{nm q:Str}{C N:Addr}{k0 k2 k3 k5:Option Value}{e:Addr}{oe:Obj}{rest:List Value}{Q:Unit→Shared→Prop}
  (hC:h.get? C=some (xCls nm q C N k0 k2 k3 k5))(he:h.get? e=some oe)(hcls:oe.cls= .ref C)(hq:Q () ⟨h,g,d,t,os⟩):wpAny M A (checkBuiltinCall "Exception.__init__" ⟨.ref e::rest,[]⟩) Q E ⟨h,g,d,t,os⟩:=by
 have F:=PySem.F.excBase_Exception
 have hcB:(Value.ref C::bmX).contains (.type "Exception")=true:=bmE
 have hshort:=F.noStar
 unfold checkBuiltinCall
 rw[F.initKind,F.initSplit,F.initRow]
 repeat (first| (with_reducible refine wpAny_loadPart_at he ?_;rw[hcls])|with_reducible refine wpAny_loadPart_at hC ?_| (with_reducible refine wpAny_isSubtype_exc hC ?_;rw[hcB])| (first|refine bm_if_true rfl ?_|refine bm_if_false rfl ?_|refine wpAny_bind ?_|refine wpAny_pure ?_|wp_step))
 refine wpAny_onRaise ?_
 rw[show ∀(a b:String) (n:Nat),Bind.check ⟨.positional,"*","Exception",.self,[⟨"args",.varPos,false⟩]⟩ a b n (List.map (λx=>x.fst) ({pos:=Value.ref e::rest}:Args).kw)=pure () from
  λa b n=>check_star_args _ _ _ _ _ _]
 exact wpAny_pure hq
theorem x_init{prog:Program}{g:Array GenState}{d:Drawn}{t:Nat}{nm q:Str}{C N:Addr}{k0 k2 k3 k5:Option Value}{e:Addr}{dx:Option Addr}{a0:Addr}{sl:Array (Option Value)}{rest:List Value}{Q:Value→Shared→Prop}
  (hC:h.get? C=some (xCls nm q C N k0 k2 k3 k5))(he:h.get? e=some ⟨.ref C,dx,.fields #[.ref a0,.none,.none,.none,.bool false,.none],sl⟩)(hz:rest.length≤sizeLine)
  (hq:Q .none ⟨(h.push {cls:=.type "tuple",data:=.seq rest.toArray}).update e (Obj.mapFields (·.setIfInBounds 0 (.ref h.objs.size))),g,d,t,os⟩):
  wpAny (model prog w) A (call (.builtin "Exception.__init__") (.ref e::rest)) Q E ⟨h,g,d,t,os⟩:=by
 have F:=PySem.F.excBase_Exception
 refine wpAny_call (codeAny_call_builtin F.init.plain F.initEntry (xck_init hC he rfl ?_))
 have he':=Heap.get?_push_of_some {cls:=.type "tuple",data:=.seq rest.toArray} he
 repeat (first|refine bm_if_true rfl ?_|refine bm_if_false rfl ?_|refine wpAny_bind ?_|refine wpAny_pure ?_|wp_step)
 exact hq
end
section
theorem qI0(P:Params):findCls (KF P) (.type "Exception") (.type "type") "__init__"=some (.val (.builtin "Exception.__init__")):=by kernel_rfl
theorem qEW:GM c (.typ "Exception") "__init__" ρ σ (.blt "Exception.__init__") []:=.mk λg R own s v pl S dv=>by
 refine dv.on λ_=>?_
 have Xk:=S.wd.K.keeps S.rel.keep
 have ht:typeOf (.type "Exception")=pure (.type "type"):=by rfl
 have hs:Manifest.isStub "Exception"=false:=by decide+kernel
 have hstub:opaqueClassAbove (.type "Exception")=pure none:=by unfold opaqueClassAbove;dsimp only;rw[hs];rfl
 have L0:Looks (model pw c.w) s.heap (typeOf (.type "Exception")) (.type "type"):=Looks.of_pure ht
 have hg:findIn (KF c.w.params) (.type "type") "__getattribute__"=some (some (.builtin "type.__getattribute__")):=type_tga
 refine wpAny_bind (wpAny_bind (L0.here ((looks_findIn Xk hg).here ?_)))
 dsimp only
 rw[if_pos canon_tga]
 refine wpAny_bind (wpAny_mono (Q:=λv s'=>PG c g R ρ own σ (.blt "Exception.__init__") [] (v,[]) s') (E:=λ_ _=>False) ?_ (λ_ _ z=>wpAny_pure z) λ_ _ z=>z)
 have LO:Looks (model pw c.w) s.heap (opaqueClassAbove (.type "Exception")) none:=Looks.of_pure hstub
 refine cls_open Xk LO L0 hg (looks_hook Xk (r:=none) (by rfl)) (by show subIn (KF c.w.params) _ _=_;rfl) (qI0 c.w.params)
  (wpAny_pure (by
   show wpAny _ _ (handedOut (.builtin "Exception.__init__")) _ _ _
   rw[handedOut_of (by decide+kernel)]
   exact wpAny_pure (.mk g (Le.refl g) (S.toks _) (.blt _) .nil)))
theorem qGL{C:Addr}(hC:C∈excL)(h:σ a=some (.exc C none []))(q:Q .none (σ.set a (.exc C none []))):OC c (.blt "Exception.__init__") [.obj a,d] ρ σ Q X:=.mk λg R own s vf vs S dv dvs=>by
 refine dv.on λ_=>?_;obtain⟨v1,v2,rfl,d1,d2⟩:=dvs.two;refine d1.on λ_=>?_
 obtain⟨nm,qn,N,k0,k2,k3,k5,hK⟩:=qHL c.w.params hC
 obtain⟨a0,e1,_⟩:=S.rel.rep a _ h
 obtain⟨hp,gs,dr,tk,os⟩:=s
 refine x_init ((S.wd.K.keeps S.rel.keep) _ _ hK) e1 (by simp[sizeLine_eq]) ?_
 have k:Le hp (hp.push {cls:=.type "tuple",data:=.seq [v2].toArray}):=λb o e=>Heap.get?_push_of_some _ e
 have r1:=S.rel.ext k
 refine(.mk g .none _ (Le.refl g) ⟨S.ok,?_,S.wd,S.gens,S.os,S.locs,S.frs⟩ .none q)
 exact r1.turn (o':=.exc C none []) h (λb hb=>hb) (λb ob hb e=>(Heap.get?_update_other _ _ (λz=>hb (by simp[MO.at,z]))).trans e) (y12 hp.objs.size (Heap.get?_update_self _ (k _ _ e1) rfl) rfl)
end
section
open PySem.Builtin PySem.Builtin.ObjectAttr
noncomputable def qFz(K:Frag)(C:Addr):Bool:=findIn K (.ref C) "__setattr__"==some (some (.builtin "object.__setattr__")) && hasDictIn K C && takerIn K C "what"==some none && takerIn K C "at"==some none &&
 mroIn K C (.type "object")==some true && (clsIn K C).any (λcd=>cd.mro== [.ref C,.ref 39,.type "Exception",.type "BaseException",.type "object"])
theorem qCU(P:Params):excL.all (qFz (KF P))=true:=by kernel_rfl
theorem refuse52(self:Value):refuseLoop self "__setattr__" [.ref 52,.ref 39,.type "Exception",.type "BaseException",.type "object"]=pure ():=by kernel_rfl
theorem refuse64(self:Value):refuseLoop self "__setattr__" [.ref 64,.ref 39,.type "Exception",.type "BaseException",.type "object"]=pure ():=by kernel_rfl
theorem refuse76(self:Value):refuseLoop self "__setattr__" [.ref 76,.ref 39,.type "Exception",.type "BaseException",.type "object"]=pure ():=by kernel_rfl
theorem refuseX{C:Addr}(h:C∈excL)(self:Value):refuseLoop self "__setattr__" [.ref C,.ref 39,.type "Exception",.type "BaseException",.type "object"]=pure ():=by
 simp only[excL,List.mem_cons,List.not_mem_nil,or_false]at h
 rcases h with rfl|rfl|rfl
 ·exact refuse52 self
 ·exact refuse64 self
 ·exact refuse76 self
section
variable {R:Result→Shared→Prop}{x C:Addr}
theorem x_osa{ox:Obj}{od:Option Obj}{name:Str}{tk:Tok}(X:(KF w.params).In s.heap)(I:InstAt s.heap x ox C od)(hC:C∈excL)(ht:takerIn (KF w.params) C name=some none)
  (h:∀b,wpAny (model pw w) A.in1 (storeInOwnDict (.ref x) (.ref C) (.str name tk) name v b)
   (λfin s'=>match fin with| .done f=>R (.ok f) s'| .again c'=>c'.quiet=true∧codeAny (model pw w) A c' R s') (λe s'=>R (.error e) s') s):
  codeAny (model pw w) A (.call (.builtin "object.__setattr__") ⟨[.ref x,.str name tk,v],[]⟩) R s:=by
 have SF:=PySem.F.store_object
 have ck:=List.all_eq_true.mp (qCU w.params) C hC
 unfold qFz at ck
 simp only[Bool.and_eq_true]at ck
 obtain⟨cd,hc,ho⟩:=any_some ck.2
 have ho:cd.mro=_:=beq_iff_eq.mp ho
 have sub:Looks (model pw w) s.heap (isInstance (.ref x) (.type "object")) true:=I.type.andThen (looks_mroIn X (beq_iff_eq.mp ck.1.2))
 refine codeAny_call_builtin SF.slot.plain SF.entry (@check_slot (model pw w) _ _ s "object.__setattr__" "object" "__setattr__" (.ref x) [.str name tk,v] [] _ SF.kind SF.split sub (SF.args (.ref x) (.str name tk) v) ?_)
 obtain⟨attr,ha,hr⟩:=Option.bind_eq_some_iff.mp ht
 have hm:Looks (model pw w) s.heap (mroOf (.ref C)) cd.mro:=(looks_clsIn X hc).andThen .now
 have L3:Looks (model pw w) s.heap (storeTaker? attr) none:=by
  cases attr with
  |none=>exact .now
  |some a=>
   obtain⟨b,hb,e⟩:=Option.map_eq_some_iff.mp hr
   refine(looks_takesIn X hb).andThen ?_
   cases b with
   |true=>cases e
   |false=>exact .now
 rw[osa_eq,refuse_eq]
 refine wpAny_bind (wpAny_bind (I.type.here (wpAny_bind (hm.here ?_))))
 rw[ho,refuseX hC]
 refine wpAny_pure (wpAny_bind (I.type.here (wpAny_bind ((looks_findIn X ha).here (wpAny_bind (L3.here ?_))))))
 exact h _
end
section
theorem x_set0{C a0:Addr}{Q:Unit→Shared→Prop}(X:(KF w.params).In s.heap)(hC:C∈excL)(ht:takerIn (KF w.params) C x=some none)(h1:s.heap.get? a=some ⟨.ref C,none,.fields #[.ref a0,.none,.none,.none,.bool false,.none],#[]⟩)(dv:DV g d v)
  (h:∀h' es' n' tk,h'.get? a=some ⟨.ref C,some s.heap.objs.size,.fields #[.ref a0,.none,.none,.none,.bool false,.none],#[]⟩→h'.get? s.heap.objs.size=some (dictOf es' n')→Flds g [(x,d)] es'→qBS a s.heap h'→Q () {s with heap:=h',toks:=tk}):
  wpAny (model pw w) A (setAttr (.ref a) x v) Q E s:=by
 have ck:=List.all_eq_true.mp (qCU w.params) C hC
 unfold qFz at ck
 simp only[Bool.and_eq_true]at ck
 have I:InstAt s.heap a ⟨.ref C,none,.fields #[.ref a0,.none,.none,.none,.bool false,.none],#[]⟩ C none:=⟨h1,rfl,rfl,trivial⟩
 refine set_plain X I (beq_iff_eq.mp ck.1.1.1.1.1) (x_osa (s:= {s with toks:=s.toks+1}) X I hC ht λb=>?_)
 obtain⟨cd,hcd,hdict⟩:=any_some ck.1.1.1.1.2
 dsimp only
 refine wpAny_bind (wpAny_pure (wpAny_bind (wpAny_bind (wpAny_loadPart (s:= {s with toks:=s.toks+1}) h1 (wpAny_bind (Looks.here (s:= {s with toks:=s.toks+1}) (looks_clsIn X hcd) ?_))))))
 rw[hdict]
 have ha:a≠s.heap.objs.size:=λq=>by rw[q,qAM]at h1;cases h1
 have h1':=Heap.get?_push_of_some {cls:=.type "dict",data:=.dict #[]} h1
 have hn:=Heap.get?_push_size s.heap (o:= {cls:=.type "dict",data:=.dict #[]}) rfl
 refine wpAny_bind (wpAny_alloc (wpAny_bind (wpAny_updatePart (s:= {s with heap:=s.heap.push {cls:=.type "dict",data:=.dict #[]},toks:=s.toks+1}) h1' ?_)))
 refine wpAny_pure (a:=some s.heap.objs.size) ?_
 have u1:((s.heap.push {cls:=.type "dict",data:=.dict #[]}).update a (λo=>{o with dict:=some s.heap.objs.size})).get? a=some ⟨.ref C,some s.heap.objs.size,.fields #[.ref a0,.none,.none,.none,.bool false,.none],#[]⟩:=Heap.get?_update_self _ h1' rfl
 have u2:((s.heap.push {cls:=.type "dict",data:=.dict #[]}).update a (λo=>{o with dict:=some s.heap.objs.size})).get? s.heap.objs.size=some (dictOf [] 0):=(Heap.get?_update_other _ _ ha).trans hn
 refine wpAny_bind (wpAny_pure (wpAny_bind ?_))
 exact qEl (s:= {s with heap:=(s.heap.push {cls:=.type "dict",data:=.dict #[]}).update a (λo=>{o with dict:=some s.heap.objs.size}),toks:=s.toks+1}) u2 .nil dv (Nat.succ_pos _) λh' es' n' tk D' F' kb=>h h' es' n' tk (kb a _ ha u1) D' F' λb ob hb e=>by
  have hb2:s.heap.objs.size≠b:=λz=>by rw[←z,qAM]at e;cases e
  refine kb b ob (Ne.symm hb2) ?_
  rw[Heap.get?_update_other _ _ (Ne.symm hb)]
  exact Heap.get?_push_of_some _ e
end
section
theorem x_set1{C a0 dx:Addr}{es:List DictEntry}{fs:List (Str × D)}{Q:Unit→Shared→Prop}(X:(KF w.params).In s.heap)(hC:C∈excL)(ht:takerIn (KF w.params) C x=some none)(h1:s.heap.get? a=some ⟨.ref C,some dx,.fields #[.ref a0,.none,.none,.none,.bool false,.none],#[]⟩)(h2:s.heap.get? dx=some (dictOf es n))(hf:Flds g fs es)
  (dv:DV g d v)(hz:fs.length < 1000)
  (h:∀h' es' n' tk,h'.get? dx=some (dictOf es' n')→Flds g (fset fs x d) es'→qBS dx s.heap h'→Q () {s with heap:=h',toks:=tk}):wpAny (model pw w) A (setAttr (.ref a) x v) Q E s:=by
 have ck:=List.all_eq_true.mp (qCU w.params) C hC
 unfold qFz at ck
 simp only[Bool.and_eq_true]at ck
 have I:InstAt s.heap a ⟨.ref C,some dx,.fields #[.ref a0,.none,.none,.none,.bool false,.none],#[]⟩ C (some (dictOf es n)):=⟨h1,rfl,rfl,h2⟩
 refine set_plain X I (beq_iff_eq.mp ck.1.1.1.1.1) (x_osa (s:= {s with toks:=s.toks+1}) X I hC ht λb=>?_)
 obtain⟨cd,hcd,hdict⟩:=any_some ck.1.1.1.1.2
 dsimp only
 refine wpAny_bind (wpAny_pure (wpAny_bind (wpAny_bind (wpAny_loadPart (s:= {s with toks:=s.toks+1}) h1 (wpAny_bind (Looks.here (s:= {s with toks:=s.toks+1}) (looks_clsIn X hcd) ?_))))))
 rw[hdict]
 refine wpAny_pure (a:=some dx) (wpAny_bind (wpAny_pure (wpAny_bind ?_)))
 exact qEl (s:= {s with toks:=s.toks+1}) h2 hf dv hz h
end
section
theorem takerX{P:Params}{C:Addr}(hC:C∈excL)(hx:x="what"∨x="at"):takerIn (KF P) C x=some none:=by
 have ck:=List.all_eq_true.mp (qCU P) C hC
 unfold qFz at ck
 simp only[Bool.and_eq_true]at ck
 rcases hx with rfl|rfl
 ·exact beq_iff_eq.mp ck.1.1.1.2
 ·exact beq_iff_eq.mp ck.1.1.2
theorem qGC{o:Expr}{p':Pos}{X:Ro→Addr→Sg→Prop}
  (h:WE c e ρ σ (λd τ=>WE c o ρ τ (λod υ=>∃a C,od= .obj a∧υ a=some (.exc C none [])∧C∈excL∧(x="what"∨x="at")∧∀dx,N ρ (υ.set a (.exc C (some dx) [(x,d)]))) (X ρ)) (X ρ))
  (hs:autoParam (pure false=swapsWith e (some (.Attribute o x p')) p.line c.env) auR):ST c (.Assign [.Attribute o x p'] e p) ρ σ N Rt X:=.mk λg R own s S=>
 plainObj_wpAny_Assign_Attribute (h.use S (λg1 d τ v s1 l1 S1 dv q=>q.use S1 (λg2 od υ ov s2 l2 S2 dov o1'=>x2_5 o1' λa C e1 e2 hC hx n=>by
  subst e1
  refine dov.on λ_=>?_
  obtain⟨a0,h1,_⟩:=S2.rel.rep a _ e2
  refine x_set0 (S2.wd.K.keeps S2.rel.keep) hC (takerX hC hx) h1 (dv.mono l2) λh' es' n' tk k1 k2 hf kb=>?_
  have fr:=qAM s2.heap
  have hne:a≠s2.heap.objs.size:=λq=>by rw[q,fr]at h1;cases h1
  obtain⟨t1,t2,t3⟩:=S2.rel.taken fr
  refine(.mk g2 own ρ _ (l1.trans l2) (St.toks (s:= {s2 with heap:=h'}) ⟨S2.ok,?_,S2.wd,S2.gens,S2.os,S2.locs,S2.frs⟩ tk) (n s2.heap.objs.size))
  have r0:=S2.rel
  have rep':MRep c.w g2 h' a (.exc C (some s2.heap.objs.size) [(x,d)]):=(y13 a0 k1 (Ne.symm hne) ⟨es',n',k2,hf⟩)
  have sa:∀b q,υ.set a (.exc C (some s2.heap.objs.size) [(x,d)]) b=some q→b=a∧q= .exc C (some s2.heap.objs.size) [(x,d)]∨b≠a∧υ b=some q:=λb q e=>by
   by_cases z:b=a
   ·subst z;rw[Sg.set_same]at e;exact .inl ⟨rfl,(Option.some.inj e).symm⟩
   ·rw[Sg.set_ne _ _ z]at e;exact .inr ⟨z,e⟩
  have oa:=r0.off a _ e2
  have ia:a∈MO.at a (MO.exc C none []):=MO.self _ _
  refine⟨λb ob q=>kb b ob (λz=>by rw[z,(oa a ia).1]at q;cases q) (r0.keep b ob q),λp hp=>⟨(r0.priv p hp).1,(r0.priv p hp).2.le λob=>kb _ ob λz=>(oa a ia).2 (z▸List.mem_map_of_mem hp)⟩,r0.nodup,λb q e=>?_,λb q e cc hc=>?_,λb q b' q' e e' nb cc hc hc'=>?_⟩
  ·rcases sa b q e with⟨rfl,rfl⟩| ⟨nb,e⟩
   ·exact rep'
   ·exact(r0.rep b q e).heap λcc hc ob=>kb cc ob λz=>r0.apart b q a _ e e2 nb cc hc (z▸ia)
  ·rcases sa b q e with⟨rfl,rfl⟩| ⟨nb,e⟩
   ·simp[MO.at]at hc
    rcases hc with rfl|rfl
    ·exact oa _ ia
    ·exact⟨t1,t2⟩
   ·exact r0.off b q e cc hc
  ·rcases sa b q e with⟨rfl,rfl⟩| ⟨n1,e1⟩
   ·rcases sa b' q' e' with⟨rfl,rfl⟩| ⟨n2,e3⟩
    ·exact nb rfl
    ·simp[MO.at]at hc
     rcases hc with rfl|rfl
     ·exact r0.apart _ _ b' q' e2 e3 (Ne.symm n2) _ ia hc'
     ·exact t3 b' q' e3 hc'
   ·rcases sa b' q' e' with⟨z1,z2⟩| ⟨n2,e3⟩
    ·subst z1 z2
     simp[MO.at]at hc'
     rcases hc' with rfl|rfl
     ·exact r0.apart b q _ _ e1 e2 n1 _ hc ia
     ·exact t3 b q e1 hc
    ·exact r0.apart b q b' q' e1 e3 nb cc hc hc') λ_ _ x=>(x.le l1).toS) λ_ _ x=>x.toS) hs.symm
theorem qGB{o:Expr}{p':Pos}{X:Ro→Addr→Sg→Prop}
  (h:WE c e ρ σ (λd τ=>WE c o ρ τ (λod υ=>∃a C dx fs,od= .obj a∧υ a=some (.exc C (some dx) fs)∧C∈excL∧(x="what"∨x="at")∧fs.length < 1000∧N ρ (υ.set a (.exc C (some dx) (fset fs x d)))) (X ρ)) (X ρ))
  (hs:autoParam (pure false=swapsWith e (some (.Attribute o x p')) p.line c.env) auR):ST c (.Assign [.Attribute o x p'] e p) ρ σ N Rt X:=.mk λg R own s S=>
 plainObj_wpAny_Assign_Attribute (h.use S (λg1 d τ v s1 l1 S1 dv q=>q.use S1 (λg2 od υ ov s2 l2 S2 dov o2'=>x4_6 o2' λa C dx fs e1 e2 hC hx hz n=>by
  subst e1
  refine dov.on λ_=>?_
  obtain⟨a0,h1,ne,es,n',h2,hf⟩:=S2.rel.rep a _ e2
  refine x_set1 (S2.wd.K.keeps S2.rel.keep) hC (takerX hC hx) h1 h2 hf (dv.mono l2) hz λh' es' n'' tk h3 hf' kb=>?_
  refine(.mk g2 own ρ _ (l1.trans l2) (St.toks (s:= {s2 with heap:=h'}) ⟨S2.ok,?_,S2.wd,S2.gens,S2.os,S2.locs,S2.frs⟩ tk) n)
  exact S2.rel.turn (o':=.exc C (some dx) (fset fs x d)) e2 (λb hb=>hb) (λb ob hb q=>kb b ob (λz=>hb (by simp[MO.at,z])) q) (y13 a0 (kb _ _ (Ne.symm ne) h1) ne ⟨es',n'',h3,hf'⟩)) λ_ _ x=>(x.le l1).toS) λ_ _ x=>x.toS) hs.symm
end
end
section
variable {C:Addr}{d2:D}
theorem walk29(hC:C∈excL)(h:σ a=some (.exc C none []))(q:∀dx,Q .none (((σ.set a (.exc C none [])).set a (.exc C (some dx) [("what",d)])).set a (.exc C (some dx) [("what",d),("at",d2)])))(hc:∃A fr L,c=cxOf (fdOf (meAt 1 0) "__init__" "PostError.__init__" (.ref 22) (.str "postkeep.errors" 187) 28) 29 w os lv A fr L):STs c (qBs (meAt 1 0)) ([("self",.obj a),("what",d),("at",d2)]) σ (λ_ τ=>Q .none τ) Q (λ_=>X):=by
 obtain⟨A,fr,L,rfl⟩:=hc
 walk_at"h"
 refine(.mk _ _ qEW qAD ?_)
 walk_at"h"
 refine qGL hC h ?_
 walk_at"h1"
 refine qGC ?_
 walk_at"h"
 refine(y25 a C rfl (Sg.set_same _ _ _) hC (.inl rfl) (λdx=>?_))
 walk_at"h1"
 refine qGB ?_
 walk_at"h"
 refine(y46 a C dx _ rfl (Sg.set_same _ _ _) hC (.inr rfl) (by simp) ?_)
 walk_at"h"
 exact q dx
theorem fn29_3(hC:C∈excL)(h:σ a=some (.exc C none []))(q:∀dx,Q .none (((σ.set a (.exc C none [])).set a (.exc C (some dx) [("what",d)])).set a (.exc C (some dx) [("what",d),("at",d2)]))):FN w os (lv+1) 29 [.obj a,d,d2] σ Q X:=by
 refine qDL (st:=meAt 1 0) (name:="__init__") (qual:="PostError.__init__") (dV:=.ref 22) (pm:=.str "postkeep.errors" 187) (cd:=28) ["self","what","at"] rfl (by decide+kernel) (λg s vs wd k dvs=>?_)
 have:∃v1 v2 v3,vs= [v1,v2,v3]:=by refine dvs.on λ_ _ _ r=>?_;obtain⟨x,y,rfl,_⟩:=r.two;exact(y31 _ _ _ rfl)
 obtain⟨v1,v2,v3,rfl⟩:=this
 have h22:s.heap.get? 22=_:=wd.K.keeps k 22 _ rfl
 refine(y23 _ _ dvs (.of_defaults rfl h22 rfl rfl rfl) (λA fr L=>walk29 hC h q (y31 A fr L rfl)))
theorem fn29_2(hC:C∈excL)(h:σ a=some (.exc C none []))(q:∀dx,Q .none (((σ.set a (.exc C none [])).set a (.exc C (some dx) [("what",d)])).set a (.exc C (some dx) [("what",d),("at",.int (-1))]))):FN w os (lv+1) 29 [.obj a,d] σ Q X:=by
 refine qDL (st:=meAt 1 0) (name:="__init__") (qual:="PostError.__init__") (dV:=.ref 22) (pm:=.str "postkeep.errors" 187) (cd:=28) ["self","what","at"] rfl (by decide+kernel) (λg s vs wd k dvs=>?_)
 obtain⟨v1,v2,rfl,e1,e2⟩:=dvs.two
 have h22:s.heap.get? 22=_:=wd.K.keeps k 22 _ rfl
 refine(y23 _ [v1,v2,.int (-1) 202] (.cons e1 (.cons e2 (.cons (.int _ _) .nil))) (.of_defaults rfl h22 rfl rfl rfl) (λA fr L=>walk29 hC h q (y31 A fr L rfl)))
end
def RaiseP.Ar(Z:Prop)(X:Addr→Sg→Prop)(d:D)(τ:Sg):Prop:=∀(a C:Addr) (dx:Addr) (d1 d2:D) (e:d= .obj a) (h:τ a=some (.exc C (some dx) [("what",d1),("at",d2)])) (hC:C∈excL) (k:C≠76→d1.flat=true∧d2.flat=true) (x:X C (τ.del a)),Z
@[irreducible] def RaiseP (X:Addr→Sg→Prop) (d:D) (τ:Sg):Prop:=∀Z,RaiseP.Ar Z X d τ→Z
theorem RaiseP.mk:RaiseP.Ar (RaiseP X d τ) X d τ:=by delta RaiseP;exact λa C dx d1 d2 e h hC k x _ kk=>kk a C dx d1 d2 e h hC k x
theorem RaiseP.el(hh:RaiseP X d τ):RaiseP.Ar Z X d τ→Z:=by delta RaiseP at hh;exact hh Z
section
open Sem (wp)
def XR.Ar(Z:Prop)(E:Value→Shared→Prop)(v:Value)(s₁:Shared):Prop:=∀(e C:Addr) (nm q:Str) (N:Addr) (a0:Value) (dx:Option Addr) (j0 j2 j3 j5:Option Value) (sl:Array (Option Value)) (ev:v= .ref e) (hC:s₁.heap.get? C=some (xCls nm q C N j0 j2 j3 j5)) (he:s₁.heap.get? e=some ⟨.ref C,dx,.fields #[a0,.none,.none,.none,.bool false,.none],sl⟩) (hE:E (.ref e) s₁),Z
@[irreducible] def XR (E:Value→Shared→Prop) (v:Value) (s₁:Shared):Prop:=∀Z,XR.Ar Z E v s₁→Z
theorem XR.mk{s₁:Shared}:XR.Ar (XR E v s₁) E v s₁:=by delta XR;exact λe C nm q N a0 dx j0 j2 j3 j5 sl ev hC he hE _ k=>k e C nm q N a0 dx j0 j2 j3 j5 sl ev hC he hE
theorem XR.el{s₁:Shared}(h:XR E v s₁):XR.Ar Z E v s₁→Z:=by delta XR at h;exact h Z
theorem qCE{M:Model}{env:Env}{x:Sem Value}{Q:Flow→Shared→Prop}(hh:A.handled=none)
  (h:wpAny M A x (XR E) E s):
  wpAny M A (raiseStmt env (some x) none) Q E s:=by
 unfold raiseStmt
 refine wpAny_bind (wpAny_mono h (λv s₁ h₁=>?_) λ_ _ x=>x)
 obtain⟨e,C,nm,q,N,a0,dx,j0,j2,j3,j5,sl,ev,hC,he,hE⟩:=h₁;subst ev
 obtain⟨hp,g,d,tk,os⟩:=s₁
 have hcB:(Value.ref C::bmX).contains (.type "BaseException")=true:=bmB
 have hcT:(Value.ref C::bmX).contains (.type "type")=false:=bmT
 repeat (first|with_reducible refine wpAny_loadPart_at he ?_|with_reducible refine wpAny_loadPart_at hC ?_| (with_reducible refine wpAny_isSubtype_exc hC ?_;first|rw[hcB]|rw[hcT])| (first|refine bm_if_true rfl ?_|refine bm_if_false rfl ?_|wp_step))
 unfold raiseNew
 refine wpAny_bind (wpAny_handled ?_)
 rw[hh]
 first
  |exact wpAny_throw hE
  |exact wpAny_bind (wpAny_pure (wpAny_throw hE))
theorem x_Raise{M:Model}{env:Env}{x:Expr}{Q:Flow→Shared→Prop}(hh:A.handled=none)
  (h:wpAny M A (eval x env) (XR E) E s):
  wpAny M A (exec (.Raise (some x) none pos) env) Q E s:=by
 rw[arm_exec_Raise]
 first
  |exact wpAny_bind (wpAny_standAt (qCE hh (wpAny_bind (wpAny_mono h (λv s₁ h₁=>wpAny_bind (wpAny_standAt (wpAny_pure h₁))) λ_ _ x=>x))))
  |(simp only[evalOpt,Option.map];exact wpAny_bind (wpAny_standAt (qCE hh (wpAny_bind (wpAny_mono h (λv s₁ h₁=>wpAny_bind (wpAny_standAt (wpAny_pure h₁))) λ_ _ x=>x)))))
  |(show wpAny M A (do standAt pos;raiseStmt env (some (do let v ←eval x env;standAt pos;pure v)) none) Q E s;exact wpAny_bind (wpAny_standAt (qCE hh (wpAny_bind (wpAny_mono h (λv s₁ h₁=>wpAny_bind (wpAny_standAt (wpAny_pure h₁))) λ_ _ x=>x)))))
end
section
variable {X:Ro→Addr→Sg→Prop}
theorem ST_Raise{x:Expr}(hb:c.bare=true)(h:WE c x ρ σ (RaiseP (X ρ)) (X ρ)):ST c (.Raise (some x) none p) ρ σ N Rt X:=.mk λg R own s S=>
 x_Raise (S.ok.hh hb) (h.use S (λg1 d τ v s1 l1 S1 dv o1'=>o1'.el λa C dx d1 d2 e1 e2 hC hfl q=>by
  subst e1
  refine dv.on λ_=>?_
  obtain⟨nm,qn,Nn,k0,k2,k3,k5,hK⟩:=qHL c.w.params hC
  obtain⟨a0,h1,ne,es,n,h2,hf⟩:=S1.rel.rep a _ e2
  have oa:=S1.rel.off a _ e2
  have ia:a∈MO.at a (MO.exc C (some dx) [("what",d1),("at",d2)]):=MO.self _ _
  have id:dx∈MO.at a (MO.exc C (some dx) [("what",d1),("at",d2)]):=by simp[MO.at]
  have fr:∀b∈MO.at a (MO.exc C (some dx) [("what",d1),("at",d2)]),Free (own++R) (τ.del a) b:=λb hb=>⟨(oa b hb).2,λa' o' e' hb'=>by
   unfold Sg.del at e'
   split at e'
   ·cases e'
   ·rename_i k;exact S1.rel.apart a _ a' o' e2 e' (Ne.symm k) b hb hb'⟩
  obtain⟨g2,l2,r2,ge,f⟩:=(S1.rel.forget (Sg.del_sub τ a)).growBut (oa a ia).1
  have S2:St c g2 R ρ (τ.del a) own s1:=⟨S1.ok,r2,S1.wd.mono l2,S1.gens,S1.os,S1.locs.mono l2,S1.frs⟩
  refine(.mk a C nm qn Nn (.ref a0) (some dx) k0 k2 k3 k5 (#[]) rfl ((S1.wd.K.keeps S1.rel.keep) _ _ hK) h1 (.mk own ρ (.mk a C g2 (τ.del a) rfl (l1.trans l2) S2 (.mk none (.mk ge (fr a ia) dx es n d1 d2 (.ref a0) .none .none (#[]) h1 (λk=>⟨rfl,hfl k⟩) (f dx _ ne h2 (fr dx id)) (hf.mono l2) rfl) (λF z=>by cases z)) q)))) λ_ _ x=>x.toS)
end
noncomputable def Cx.under(c:Cx)(e:Addr):Cx:= {c with A:=c.A.mark (some (.ref e)),bare:=false}
section
variable {X:Ro→Addr→Sg→Prop}
theorem St.under(S:St c g R ρ σ own s)(e:Addr):St (c.under e) g R ρ σ own s:=
 ⟨⟨λq=>(nomatch (q:false=true)),S.ok.hf,S.ok.hd,S.ok.hu,S.ok.hg,S.ok.hb,S.ok.hk,S.ok.h0,S.ok.gd⟩,S.rel,S.wd,S.gens,S.os,⟨S.locs.loc,S.locs.cel,S.locs.mine,S.locs.free,S.locs.inj⟩,S.frs⟩
theorem St.back{e:Addr}(S:St (c.under e) g R ρ σ own s)(ok:CxOk c):St c g R ρ σ own s:=
 ⟨ok,S.rel,S.wd,S.gens,S.os,⟨S.locs.loc,S.locs.cel,S.locs.mine,S.locs.free,S.locs.inj⟩,S.frs⟩
theorem qDa{M:Model}{Q:Value→Shared→Prop}(S:St c g R ρ σ own s)(k:c.env.kindOf x=some .globalImplicit)(e:globV.lookup x=some v)(h:Q v s)(hd:autoParam (false=(x==("__debug__":Str))) auR):
  wpAny M A (eval (.Name x p) c.env) Q E s:=by
 obtain⟨mg,mb,hg,hb,q1,q2,q3⟩:=S.wd.ns
 refine Name_function_global S.ok.hk k ?_ hd.symm
 exact loadGlobal_global (by rw[S.ok.hg];exact hg.keeps S.rel.keep) (q1 (x,v) (mem_of_lookup e)) h
theorem exmAll(P:Params):excL.all (λC=>exmOne (KF P) (.ref C) (.ref C)==some true)=true:=by kernel_rfl
theorem qH6{b0:Stmt}{bs:List Stmt}{np hp:Pos}{C ea:Addr}{g1:Heap}{own1:Pv}{ρ1:Ro}{σ1:Sg}{s1:Shared}(ht:c.top=true)(hT:C∈excL)(k:c.env.kindOf x=some .globalImplicit)(e:globV.lookup x=some (.ref C))(hd:false=(x==("__debug__":Str)))
  (l1:Le g g1)(S1:St c g1 R ρ1 σ1 own1 s1)(F:Fly g1 (own1++R) σ1 c.env.frame ea C s1.heap)(q:∀ea,STs (c.under ea) (b0::bs) ρ1 σ1 N Rt (λ_ _ _=>False)):
  wpAny (model pw c.w) c.A (noteFrame (.ref ea) c.env) (λ_ s2=>wpAny (model pw c.w) c.A (setFlight (.ref ea) none) (λ_ s3=>wpAny (model pw c.w) c.A (handleBy (.ref ea) c.env [.ExceptHandler (some (.Name x np)) none (b0::bs) hp]) (PF c g R N Rt) (PXs c g R X) s3) (PXs c g R X) s2) (PXs c g R X) s1:=by
 obtain⟨rest,L,hfr,hf,hA⟩:=S1.frame ht
 refine qC4 S1.rel (by rw[←hf];exact F) (outer:=rest) (by rw[←hfr];exact S1.frs) hA hf λh2 r2 F2=>?_
 refine qBN (s:= {s1 with heap:=h2}) (fr:=none) r2 F2 λh3 r3 F3=>?_
 have S3:=S1.heap r3
 obtain⟨oe,he,hoe⟩:=F3.cls
 have LT:Looks (model pw c.w) h3 (typeOf (.ref ea)) (.ref C):=hoe▸(Looks.ld he).andThen .now
 have hx:=beq_iff_eq.mp (List.all_eq_true.mp (exmAll c.w.params) C hT)
 refine wpAny_handleBy_cons (codeAny_handlers_test (qDa (s:= {s1 with heap:=h3}) S3 k e ?_ hd)) (by intro q;cases q)
 refine(exm_one (S3.wd.K.keeps S3.rel.keep) LT hx) _ _ _ _ (λ_ _ e=>e) (codeAny_handlers_suite ?_)
 refine qBN (s:= {s1 with heap:=h3}) (fr:=none) r3 F3 λh4 r4 F4=>?_
 have S4:=S1.heap r4
 refine wpAny_mono ((q ea).go g1 R own1 _ (S4.under ea)) (λfl s5 p=>?_) λev s5 p5'=>p5'.el λown5 ρ5 x=>x.no
 cases fl with
 |next=>exact p.el λg5 own5 ρ5 σ5 l5 S5 n=>(.mk g5 own5 ρ5 σ5 (l1.trans l5) (S5.back S1.ok) n)
 |ret v=>exact p.el λg5 own5 ρ5 σ5 d5 l5 S5 dv n=>(.mk g5 own5 ρ5 σ5 d5 (l1.trans l5) (S5.back S1.ok) dv n)
 |brk=>exact p.elim
 |cont=>exact p.elim
theorem qEV{body:List Stmt}{b0:Stmt}{bs:List Stmt}{np hp:Pos}{T:Addr}(ht:c.top=true)(hT:T∈excL)(k:c.env.kindOf x=some .globalImplicit)(e:globV.lookup x=some (.ref T))
  (h:STs c body ρ σ N Rt (λρ1 C τ=>C=T∧∀ea,STs (c.under ea) (b0::bs) ρ1 τ N Rt (λ_ _ _=>False)))(hd:autoParam (false=(x==("__debug__":Str))) auR):
  ST c (.Try body [.ExceptHandler (some (.Name x np)) none (b0::bs) hp] [] [] pos) ρ σ N Rt X:=.mk λg R own s S=>by
 refine wpAny_Try_except (wpAny_mono (h.go g R own s S) (λfl s1 p=>?_) λev s1 p1'=>p1'.el λown1 ρ1 p1'=>p1'.el λea C g1 σ1 e1 l1 S1 F p1'=>x0_2 p1' λe2 q=>?_)
 ·cases fl with
  |next=>exact wpAny_execs_nil p
  |ret v=>exact p
  |brk=>exact p
  |cont=>exact p
 subst e1 e2
 exact qH6 ht hT k e hd l1 S1 F q
end
section
open Sem (wp)
variable {prog:Program}{R:Result→Shared→Prop}
theorem qG1{target iter:Expr}{scope:Scope}{it acc:Value}{env:Env}(I:Nat→Shared→Prop)
  (turn:∀n s,I n s→wpAny (model prog w) A (pyNext it) (λr s₁=>match r with
   |none=>R (.ok .next) s₁
   |some v=>wpAny (model prog w) A (letOwnedTupleGo target it v) (λ_ s₁'=>wpAny (model prog w) A (assign target env v) (λ_ s₂=>
     wpAny (model prog w) A (forIn ifs true λc r=>if r=true then do let ok ←isTrue c env (eval c env);pure (ForInStep.yield ok)else pure (ForInStep.yield r)) (λok s₃=>
      if ok=true then wpAny (model prog w) A (eval elt env) (λx s₄=>
       wpAny (model prog w) A (call (.builtin "list.append") [acc,x]) (λ_ s₅=>∃m,m < n∧I m s₅) (λ_ _=>False) s₄) (λ_ _=>False) s₃
      else ∃m,m < n∧I m s₃) (λ_ _=>False) s₂) (λ_ _=>False) s₁') (λ_ _=>False) s₁) (λ_ _=>False) s)
  (n:Nat)(h:I n s):codeAny (model prog w) A (.compLoop (.ListComp elt [⟨target,iter,ifs,0⟩] scope pos) 0 it acc env) R s:=by
 refine codeAny_loop rfl I (λn s hI=>?_) n h
 show wpAny _ A ((compTurn (.ListComp elt [⟨target,iter,ifs,0⟩] scope pos) 0 it acc env).onRaise (λx=>do noteFrame x env;theTreesLotGoes x)) _ _ s
 refine wpAny_noted ?_
 rw[compTurn_list]
 refine wpAny_bind (wpAny_standAt (wpAny_bind (wpAny_mono (turn n s hI) (λr s₁ h₁=>?_) λ_ _ h'=>h'.elim)))
 cases r with
 |none=>exact wpAny_pure h₁
 |some v=>
  refine wpAny_bind (wpAny_mono h₁ (λ_ s₁' h₁'=>?_) λ_ _ h'=>h'.elim)
  refine wpAny_bind (wpAny_mono h₁' (λ_ s₂ h₂=>wpAny_bind (wpAny_mono h₂ (λok s₃ h₃=>?_) λ_ _ h'=>h'.elim)) λ_ _ h'=>h'.elim)
  cases ok with
  |false=>exact wpAny_pure ⟨rfl,h₃⟩
  |true=>
   exact wpAny_bind (wpAny_bind (wpAny_mono h₃ (λx s₄ h₄=>wpAny_bind (wpAny_mono h₄ (λ_ s₅ h₅=>wpAny_pure (wpAny_pure ⟨rfl,h₅⟩)) λ_ _ h'=>h'.elim)) λ_ _ h'=>h'.elim))
end
theorem Rel.subl{R':Pv}(x:Rel w g R σ h)(k:∀p∈R',p∈R)(nd:(R'.map (·.1)).Nodup):Rel w g R' σ h:=
 ⟨x.keep,λp hp=>x.priv p (k p hp),nd,x.rep,λa o e b hb=>⟨(x.off a o e b hb).1,λhm=>by
  obtain⟨p,hp,e'⟩:=List.mem_map.mp hm
  exact(x.off a o e b hb).2 (e'▸List.mem_map_of_mem (k p hp))⟩,x.apart⟩
theorem Rel.track(x:Rel w g R σ h){o:MO}(ha:o.at a= [a])(hg:g.get? a=none)(hf:Free R σ a)(r:MRep w g h a o):Rel w g R (σ.set a o) h:=by
 have sa:∀b p,σ.set a o b=some p→b=a∧p=o∨b≠a∧σ b=some p:=λb p e=>by
  by_cases q:b=a
  ·subst q;rw[Sg.set_same]at e;exact .inl ⟨rfl,(Option.some.inj e).symm⟩
  ·rw[Sg.set_ne _ _ q]at e;exact .inr ⟨q,e⟩
 refine⟨x.keep,x.priv,x.nodup,λb p e=>?_,λb p e c hc=>?_,λb p b' p' e e' n c hc hc'=>?_⟩
 ·rcases sa b p e with⟨rfl,rfl⟩| ⟨_,e⟩
  ·exact r
  ·exact x.rep b p e
 ·rcases sa b p e with⟨rfl,rfl⟩| ⟨_,e⟩
  ·rw[ha]at hc;rw[List.mem_singleton.mp hc];exact⟨hg,hf.1⟩
  ·exact x.off b p e c hc
 ·rcases sa b p e with⟨rfl,rfl⟩| ⟨n1,e1⟩
  ·rcases sa b' p' e' with⟨rfl,rfl⟩| ⟨n2,e'⟩
   ·exact n rfl
   ·rw[ha]at hc;rw[List.mem_singleton.mp hc]at hc';exact hf.2 b' p' e' hc'
  ·rcases sa b' p' e' with⟨z1,z2⟩| ⟨n2,e'⟩
   ·subst z1 z2;rw[ha]at hc';rw[List.mem_singleton.mp hc']at hc;exact hf.2 b p e1 hc
   ·exact x.apart b p b' p' e1 e' n c hc hc'
theorem St.swap{p q:Addr × Obj}(S:St c g (p::q::R) ρ σ own s):St c g (q::p::R) ρ σ own s:=by
 have pm:(own++p::q::R).Perm (own++q::p::R):=(List.Perm.refl own).append (List.Perm.swap q p R)
 have mv:∀{x:Addr × Obj},x∈own++p::q::R→x∈own++q::p::R:=λhx=>pm.subset hx
 exact S.to (S.rel.subl (λx hx=>pm.symm.subset hx) ((pm.map (·.1)).nodup_iff.mp S.rel.nodup)) λhq _=>mv hq
theorem St.turnP{I:Addr}{o':Obj}{tk:Nat}(S:St c g ((I,o)::R) ρ σ own s)(hf:noCD o)(ho:h'.get? I=some o')(k:qBS I s.heap h'):St c g ((I,o')::R) ρ σ own {s with heap:=h',toks:=tk}:=by
 have hm:(I,o)∈own++(I,o)::R:=List.mem_append_right _ List.mem_cons_self
 have nd:=S.rel.nodup
 rw[List.map_append,List.nodup_append]at nd
 have n1:I∉own.map (·.1):=λq=>nd.2.2 _ q _ (by simp) rfl
 have n2:I∉R.map (·.1):=λq=>(List.nodup_cons.mp nd.2.1).1 q
 have rel:=S.rel.iter (vs:=#[]) hm ho k
 rw[List.map_append,List.map_cons,if_pos rfl,qBd n1,qBd n2]at rel
 have mv:∀{a:Addr} {ob:Obj},(a,ob)∈own++(I,o)::R→ob≠o→(a,ob)∈own++(I,o')::R:=λ{a ob} q n=>by
  rcases List.mem_append.mp q with q|q
  ·exact List.mem_append_left _ q
  ·rcases List.mem_cons.mp q with q|q
   ·injection q with q1 q2;exact absurd q2 n
   ·exact List.mem_append_right _ (List.mem_cons_of_mem _ q)
 exact S.to rel λhq n=>mv hq λz=>n (z▸hf)
def WT.Ar(c:Cx)(ifs:List Expr)(ρ:Ro)(σ:Sg)(Q:Bool→Sg→Prop):Prop:=∀g R own s,St c g R ρ σ own s→wpAny (model pw c.w) c.A (forIn ifs true λt r=>if r=true then do let ok ←isTrue t c.env (eval t c.env);pure (ForInStep.yield ok)else pure (ForInStep.yield r)) (PB c g R ρ own Q) (λ_ _=>False) s
@[irreducible] def WT (c:Cx) (ifs:List Expr) (ρ:Ro) (σ:Sg) (Q:Bool→Sg→Prop):Prop:=WT.Ar c ifs ρ σ Q
theorem WT.mk{Q:Bool→Sg→Prop}(h:WT.Ar c ifs ρ σ Q):WT c ifs ρ σ Q:=by delta WT;exact h
theorem WT.go{Q:Bool→Sg→Prop}(h:WT c ifs ρ σ Q):WT.Ar c ifs ρ σ Q:=by delta WT at h;exact h
theorem WT_nil{Q:Bool→Sg→Prop}(h:Q true σ):WT c [] ρ σ Q:=.mk λg R own s S=>by
 rw[List.forIn_nil];exact wpAny_pure (.mk g σ (Le.refl g) S h)
theorem WT_one{t:Expr}{Q:Bool→Sg→Prop}(h:WB c t ρ σ Q (λ_ _=>False)):WT c [t] ρ σ Q:=.mk λg R own s S=>by
 rw[List.forIn_cons]
 refine wpAny_bind (wpAny_bind (wpAny_mono (h.go g R own s S) (λb s1 p=>wpAny_pure ?_) λ_ _ x=>x.no))
 dsimp only
 rw[List.forIn_nil]
 exact wpAny_pure p
noncomputable def Cx.comp(c:Cx)(scope:Scope)(cl:List (Str × Addr))(C:Addr):Cx:= {c with env:=compEnvC scope cl C c.env,top:=false,kp:=none}
def CSub(c:Cx)(scope:Scope)(cl:List (Str × Addr))(ρ:Ro):Ro→Prop
 | []=>True
 |(x,d)::r=>(((relabel scope c.env).names.lookup x=some .cell∨((relabel scope c.env).names.lookup x=some .free∧(x==("__classdict__":Str))=false))∧(cl.lookup x).isSome=true∧ρ.lookup x=some d)∧CSub c scope cl ρ r
theorem CSub.at{scope:Scope}(h:CSub c scope cl ρ ρ')(e:ρ'.lookup x=some d):
  (((relabel scope c.env).names.lookup x=some .cell∨((relabel scope c.env).names.lookup x=some .free∧(x==("__classdict__":Str))=false))∧(cl.lookup x).isSome=true∧ρ.lookup x=some d):=by
 induction ρ' with
 |nil=>cases e
 |cons p r ih=>
  cases p with|mk y b=>
  rw[List.lookup_cons]at e
  by_cases k:x=y
  ·rw[k,beq_self_eq_true]at e
   rw[k,←Option.some.inj e];exact h.1
  ·rw[show(x==y)=false from beq_eq_false_iff_ne.mpr k]at e
   exact ih h.2 e
theorem qBp{scope:Scope}{env:Env}(hc:∀y∈scope.names,y.2≠.cell)(e:(relabel scope env).names.lookup x=some .cell):env.kindOf x=some .cell:=by
 have:∀l:List (Str × NameKind),(∀y∈l,y.2≠.cell)→(l.map λ(n,k)=>if(k==NameKind.free && env.scope.kind== .function && env.kindOf n==some .cell)then(n,NameKind.cell)else(n,k)).lookup x=some .cell→env.kindOf x=some .cell:=by
  intro l
  induction l with
  |nil=>intro _ e;simp at e
  |cons p r ih=>
   obtain⟨n,k⟩:=p
   intro h e
   rw[List.map_cons]at e
   by_cases z:(k==NameKind.free && env.scope.kind== .function && env.kindOf n==some .cell)=true
   ·simp only[z,if_true,List.lookup_cons]at e
    by_cases q:x=n
    ·subst q
     simp only[Bool.and_eq_true,beq_iff_eq]at z
     exact z.2
    ·rw[show(x==n)=false from beq_eq_false_iff_ne.mpr q]at e
     exact ih (λy hy=>h y (List.mem_cons_of_mem _ hy)) e
   ·simp only[z,if_false,Bool.false_eq_true,List.lookup_cons]at e
    by_cases q:x=n
    ·subst q
     rw[beq_self_eq_true]at e
     injection e with e
     exact absurd e (h _ List.mem_cons_self)
    ·rw[show(x==n)=false from beq_eq_false_iff_ne.mpr q]at e
     exact ih (λy hy=>h y (List.mem_cons_of_mem _ hy)) e
 exact this scope.names hc e
theorem qFT{scope:Scope}{env:Env}(hk:env.scope.kind= .function)(e:(relabel scope env).names.lookup x=some .free):env.kindOf x≠some .cell:=by
 have:∀l:List (Str × NameKind),(l.map λ(n,k)=>if(k==NameKind.free && env.scope.kind== .function && env.kindOf n==some .cell)then(n,NameKind.cell)else(n,k)).lookup x=some .free→env.kindOf x≠some .cell:=by
  intro l
  induction l with
  |nil=>intro e;simp at e
  |cons p r ih=>
   obtain⟨n,k⟩:=p
   intro e
   rw[List.map_cons]at e
   by_cases z:(k==NameKind.free && env.scope.kind== .function && env.kindOf n==some .cell)=true
   ·simp only[z,if_true,List.lookup_cons]at e
    by_cases q:x=n
    ·subst q;rw[beq_self_eq_true]at e;cases e
    ·rw[show(x==n)=false from beq_eq_false_iff_ne.mpr q]at e
     exact ih e
   ·simp only[z,if_false,Bool.false_eq_true,List.lookup_cons]at e
    by_cases q:x=n
    ·subst q
     rw[beq_self_eq_true]at e
     injection e with e
     subst e
     intro w
     exact z (by simp[hk,w])
    ·rw[show(x==n)=false from beq_eq_false_iff_ne.mpr q]at e
     exact ih e
 exact this scope.names e
def ClOk(c:Cx)(cl:List (Str × Addr)):Prop:=∀x a,cl.lookup x=some a→c.env.cells.lookup x=some a∧(c.env.kindOf x=some .cell∨c.env.kindOf x=some .free)
section
theorem St.enter{scope:Scope}{tk:Nat}{C D':Addr}{oC oD:Obj}{m:Str→Option Value}(S:St c g R ρ σ own s)(hkind:scope.kind= .function)(hcell:∀y∈scope.names,y.2≠.cell)(hcl:ClOk c cl)(hsub:CSub c scope cl ρ ρ')
  (k:Le s.heap h')(f1:s.heap.get? C=none)(f2:s.heap.get? D'=none)(ne:C≠D')(e1:h'.get? C=some oC)(e2:h'.get? D'=some oD)(hn:NsObj oC m):St (c.comp scope cl C) g ((D',oD)::(own++R)) ρ' σ [(C,oC)] {s with heap:=h',toks:=tk}:=by
 have r:=S.rel.addPriv (l:=[(C,oC),(D',oD)]) k (by simp[ne]) λp hp=>by
  simp at hp
  rcases hp with rfl|rfl
  ·exact⟨f1,e1⟩
  ·exact⟨f2,e2⟩
 refine⟨⟨S.ok.hh,S.ok.hf,S.ok.hd,S.ok.hu,S.ok.hg,S.ok.hb,hkind,λq=>(nomatch (q:false=true)),S.ok.gd⟩,r,S.wd,S.gens,S.os,⟨(y23 oC m List.mem_cons_self hn (λx d e hx=>?_)),λx d e=>?_,λq=>(nomatch (q:false=true)),λx y a hx hy e1 e2=>?_,λx y a hx hy e1 e2=>?_⟩,λe he=>?_⟩
 ·obtain⟨q,_,_⟩:=hsub.at e
  have hx:(relabel scope c.env).names.lookup x=some .local:=hx
  rw[hx]at q
  rcases q with q| ⟨q,_⟩ <;> cases q
 ·obtain⟨q,q2,q3⟩:=hsub.at e
  obtain⟨a,ha⟩:=Option.isSome_iff_exists.mp q2
  obtain⟨c1,c2⟩:=hcl x a ha
  refine .inr ⟨q.imp id .inl,?_⟩
  rcases S.locs.cel x d q3 with z| ⟨z,b,ob,v,b1,b2,b3,dv⟩
  ·rcases c2 with c2|c2 <;> rw[z]at c2 <;> cases c2
  ·rw[Cx.cellAt_of c1]at b1;injection b1 with b1;subst b1
   exact(y34 a ob v (Cx.cellAt_of ha) (List.mem_cons_of_mem _ (List.mem_cons_of_mem _ b2)) b3 dv)
 ·have h1:=qBp hcell hy
  rw[Cx.cellAt_none rfl]at e1
  rcases hx with hx| ⟨_,hx⟩
  rotate_left
  ·have hx:cl.lookup x=none:=hx
   have e1:cl.lookup x=some a:=e1
   rw[hx]at e1;cases e1
  have h2:=qFT S.ok.hk hx
  obtain⟨c1,c2⟩:=hcl x a e1
  obtain⟨d1,d2⟩:=hcl y a e2
  rcases c2 with c2|c2
  ·exact h2 c2
  ·exact S.locs.free x y a (.inl c2) h1 (Cx.cellAt_of c1) d1
 ·exact S.locs.inj x y a (qBp hcell hx) (qBp hcell hy) (hcl x a e1).1 (hcl y a e2).1
 ·obtain⟨k,L,o,hf,hm,r⟩:=S.frs e he
  exact⟨k,L,o,hf,List.mem_cons_of_mem _ (List.mem_cons_of_mem _ hm),r⟩
theorem St.leave{c':Cx}{R2 own2:Pv}{ρ2:Ro}{σ2:Sg}{g2:Heap}{s2:Shared}{C:Addr}{oC:Obj}(S:St c g R ρ σ own s)(l:Le g g2)(S2:St c' g2 R2 ρ2 σ2 own2 s2)(hw:c'.w=c.w)(ho:c'.os=c.os)(hm:(C,oC)∈own2)(hR:∀p∈own++R,p∈R2):
  St c g2 ((C,oC)::R) ρ σ2 own s2:=by
 have nd:=S2.rel.nodup
 rw[List.map_append,List.nodup_append]at nd
 have hC:C∉(own++R).map (·.1):=λq=>by
  obtain⟨p,hp,e⟩:=List.mem_map.mp q
  exact nd.2.2 C (List.mem_map_of_mem (f:=(·.1)) hm) p.1 (List.mem_map_of_mem (hR p hp)) e.symm
 have pm:(own++(C,oC)::R).Perm ((C,oC)::(own++R)):=List.perm_middle
 have rel:Rel c.w g2 (own++(C,oC)::R) σ2 s2.heap:=by
  have:=S2.rel
  rw[hw]at this
  refine this.subl (λp hp=>?_) ((pm.map (·.1)).nodup_iff.mpr (List.nodup_cons.mpr ⟨hC,S.rel.nodup⟩))
  rcases List.mem_cons.mp (pm.subset hp)with rfl|hp
  ·exact List.mem_append_left _ hm
  ·exact List.mem_append_right _ (hR p hp)
 have mv:∀{q:Addr × Obj},q∈own++R→q∈own++(C,oC)::R:=λh=>pm.symm.subset (List.mem_cons_of_mem _ h)
 have L:=S.locs.mono l
 exact⟨S.ok,rel,S.wd.mono l,S2.gens,ho▸S2.os,⟨L.loc,λx d e=>qDq (L.cel x d e) (λ_ _ _ _ _ _=>mv) λ_ h=>h,L.mine,L.free,L.inj⟩,
  S.frs.map λ_ _=>mv⟩
end
theorem St.perm{R':Pv}(S:St c g R ρ σ own s)(pm:R.Perm R'):St c g R' ρ σ own s:=by
 have pm':(own++R).Perm (own++R'):=(List.Perm.refl own).append pm
 exact S.to (S.rel.subl (λx hx=>pm'.symm.subset hx) ((pm'.map (·.1)).nodup_iff.mp S.rel.nodup)) λhq _=>pm'.subset hq
theorem noCD_list{ws:Array Value}:noCD (listOf ws k):=by
 refine⟨λv q=>?_,λx=>?_⟩
 ·cases q
 ·obtain⟨es,ep,q⟩:=x;cases q
abbrev kSome(P:Option D→Sg→Prop):D→Sg→Prop:=λy τ=>P (some y) τ
abbrev kElt(c:Cx)(elt:Expr)(ρ:Ro)(P:Option D→Sg→Prop):Bool→Sg→Prop:=λb τ=>if b then WE c elt ρ τ (kSome P) (λ_ _=>False)else P none τ
def BodyP.Ar(Z:Prop)(c:Cx)(ifs:List Expr)(elt:Expr)(ρ':Ro)(P:Option D→Sg→Prop)(ρ:Ro)(τ:Sg):Prop:=∀(hr:RSub ρ' ρ) (w:WT c ifs ρ τ (kElt c elt ρ P)),Z
@[irreducible] def BodyP (c:Cx) (ifs:List Expr) (elt:Expr) (ρ':Ro) (P:Option D→Sg→Prop) (ρ:Ro) (τ:Sg):Prop:=∀Z,BodyP.Ar Z c ifs elt ρ' P ρ τ→Z
theorem BodyP.mk{P:Option D→Sg→Prop}:BodyP.Ar (BodyP c ifs elt ρ' P ρ τ) c ifs elt ρ' P ρ τ:=by delta BodyP;exact λhr w _ k=>k hr w
theorem BodyP.el{P:Option D→Sg→Prop}(h:BodyP c ifs elt ρ' P ρ τ):BodyP.Ar Z c ifs elt ρ' P ρ τ→Z:=by delta BodyP at h;exact h Z
theorem kElt_f{P:Option D→Sg→Prop}{b:Bool}(e:false=b)(h:P none τ):kElt c elt ρ P b τ:=by subst e;exact h
def CBody.Ar(c':Cx)(target elt:Expr)(ifs:List Expr)(ρ':Ro)(d:D)(τ:Sg)(P:Option D→Sg→Prop):Prop:=AS c' target d ρ' τ (BodyP c' ifs elt ρ' P) (λ_ _=>False)
@[irreducible] def CBody (c':Cx) (target elt:Expr) (ifs:List Expr) (ρ':Ro) (d:D) (τ:Sg) (P:Option D→Sg→Prop):Prop:=CBody.Ar c' target elt ifs ρ' d τ P
theorem CBody.mk{c':Cx}{target:Expr}{P:Option D→Sg→Prop}(h:CBody.Ar c' target elt ifs ρ' d τ P):CBody c' target elt ifs ρ' d τ P:=by delta CBody;exact h
theorem CBody.go{c':Cx}{target:Expr}{P:Option D→Sg→Prop}(h:CBody c' target elt ifs ρ' d τ P):CBody.Ar c' target elt ifs ρ' d τ P:=by delta CBody at h;exact h
noncomputable def push?(ys:List D):Option D→List D
 |some y=>ys++ [y]
 |none=>ys
def CI.Ar(Z:Prop)(c':Cx)(g2:Heap)(R0:Pv)(It D0:Addr)(ρ':Ro)(m:Nat)(Iv:Nat→List D→Sg→Prop)(K:Nat→Heap→Obj→Prop)(n:Nat)(s':Shared):Prop:=∀(i:Nat) (ys:List D) (ws:Array Value) (k:Nat) (g3:Heap) (σ3:Sg) (own3:Pv) (o3:Obj) (hn:n+i=m) (hy:ys.length≤i) (l3:Le g2 g3) (S3:St c' g3 ((It,o3)::(D0,listOf ws k)::R0) ρ' σ3 own3 s') (dvs:DVs g3 ys ws.toList) (i3:Iv i ys σ3) (k3:K i g3 o3),Z
@[irreducible] def CI (c':Cx) (g2:Heap) (R0:Pv) (It D0:Addr) (ρ':Ro) (m:Nat) (Iv:Nat→List D→Sg→Prop) (K:Nat→Heap→Obj→Prop) (n:Nat) (s':Shared):Prop:=∀Z,CI.Ar Z c' g2 R0 It D0 ρ' m Iv K n s'→Z
theorem CI.mk{c':Cx}{g2:Heap}{R0:Pv}{It D0:Addr}{m:Nat}{Iv:Nat→List D→Sg→Prop}{K:Nat→Heap→Obj→Prop}:CI.Ar (CI c' g2 R0 It D0 ρ' m Iv K n s') c' g2 R0 It D0 ρ' m Iv K n s':=by delta CI;exact λi ys ws k g3 σ3 own3 o3 hn hy l3 S3 dvs i3 k3 _ kk=>kk i ys ws k g3 σ3 own3 o3 hn hy l3 S3 dvs i3 k3
theorem CI.el{c':Cx}{g2:Heap}{R0:Pv}{It D0:Addr}{m:Nat}{Iv:Nat→List D→Sg→Prop}{K:Nat→Heap→Obj→Prop}(h:CI c' g2 R0 It D0 ρ' m Iv K n s'):CI.Ar Z c' g2 R0 It D0 ρ' m Iv K n s'→Z:=by delta CI at h;exact h Z
def CJ.Ar(Z:Prop)(c:Cx)(ρ:Ro)(B:(Nat→List D→Sg→Prop)→Nat→List D→D→Sg→Prop)(Fin:List D→Sg→Prop)(d:D)(τ:Sg):Prop:=∀(ds:List D) (KS:Sg→Prop) (hz:ds.length≤sizeLine) (src:SRC c d ds KS ρ τ) (I:Nat→List D→Sg→Prop) (i0:I 0 [] τ) (iK:∀i ys τ1,I i ys τ1→KS τ1) (step:∀i ys τ1 d,ds[i]? =some d→I i ys τ1→B I i ys d τ1) (fin:∀ys τ1,I ds.length ys τ1→ys.length≤sizeLine→Fin ys τ1),Z
@[irreducible] def CJ (c:Cx) (ρ:Ro) (B:(Nat→List D→Sg→Prop)→Nat→List D→D→Sg→Prop) (Fin:List D→Sg→Prop) (d:D) (τ:Sg):Prop:=∀Z,CJ.Ar Z c ρ B Fin d τ→Z
theorem CJ.mk{B:(Nat→List D→Sg→Prop)→Nat→List D→D→Sg→Prop}{Fin:List D→Sg→Prop}:CJ.Ar (CJ c ρ B Fin d τ) c ρ B Fin d τ:=by delta CJ;exact λds KS hz src I i0 iK step fin _ k=>k ds KS hz src I i0 iK step fin
theorem CJ.el{B:(Nat→List D→Sg→Prop)→Nat→List D→D→Sg→Prop}{Fin:List D→Sg→Prop}(h:CJ c ρ B Fin d τ):CJ.Ar Z c ρ B Fin d τ→Z:=by delta CJ at h;exact h Z
section
theorem qJ0{scope:Scope}{It:Addr}{o2 ob ol:Obj}{h1:Heap}{m:Str→Option Value}{tk:Nat}(S2:St c g ((It,o2)::R) ρ σ own s)(hkind:scope.kind= .function)(hcell:∀y∈scope.names,y.2≠.cell)(hcl:ClOk c cl)(hsub:CSub c scope cl ρ ρ')(hol:ol.isFreed=false)
  (hns:h1.Ns (s.heap.push ol).objs.size m)(hsb:Heap.SameBut (s.heap.push ol).objs.size ((s.heap.push ol).push ob) h1):(s.heap.push ol).objs.size≠s.heap.objs.size∧∃oC,St (c.comp scope cl (s.heap.push ol).objs.size) g ((It,o2)::(s.heap.objs.size,ol)::(own++R)) ρ' σ [((s.heap.push ol).objs.size,oC)] {s with heap:=h1,toks:=tk}:=by
 have sz:(s.heap.push ol).objs.size=s.heap.objs.size+1:=Heap.size_push ..
 have hne:(s.heap.push ol).objs.size≠s.heap.objs.size:=by rw[sz];exact Nat.succ_ne_self _
 have hCf:s.heap.get? (s.heap.push ol).objs.size=none:=qAU λo q=>by have:=Heap.lt_size q;rw[sz]at this;exact Nat.lt_irrefl _ (Nat.lt_trans (Nat.lt_succ_self _) this)
 obtain⟨oC,eC,nC⟩:=ns_obj hns
 refine⟨hne,oC,(S2.enter (scope:=scope) (cl:=cl) (ρ':=ρ') (D':=s.heap.objs.size) (tk:=tk) hkind hcell hcl hsub (λb o e=>hsb.extBut b o (λz=>by rw[z,hCf]at e;cases e) (Heap.get?_push_of_some _ (Heap.get?_push_of_some _ e))) hCf (qAM _) hne eC (hsb.extBut _ _ (Ne.symm hne) (Heap.get?_push_of_some _ (Heap.get?_push_size _ hol))) nC).perm ?_⟩
 exact((List.perm_middle (a:=(It,o2)) (l₁:=own) (l₂:=R)).cons _).trans (List.Perm.swap _ _ _)
theorem qHQ{P:Prop}{g1 g3:Heap}{s5:Shared}{σ3:Sg}{own3:Pv}{scope:Scope}{C D0:Addr}{ws:Array Value}(S1:St c g1 R ρ σ own s)(l:Le g1 g3)(S5:St (c.comp scope cl C) g3 ((D0,listOf ws k)::(own++R)) ρ' σ3 own3 s5)(hne:C≠D0)
  (fin:∀oC m,St c g3 ((C,oC)::R) ρ σ3 own s5→NsObj oC m→s5.heap.get? D0=some (listOf ws k)→g3.get? D0=none→Free (own++(C,oC)::R) σ3 D0→P):P:=by
 obtain⟨oC5,m5,hm5,hn5,_⟩:=S5.locs.loc
 have pD:=S5.rel.priv (D0,listOf ws k) (List.mem_append_right _ List.mem_cons_self)
 have nd:=S5.rel.nodup
 rw[List.map_append,List.nodup_append]at nd
 refine fin oC5 m5 (S1.leave l S5 rfl rfl hm5 (λp hp=>List.mem_cons_of_mem _ hp)) hn5 (PrivAt.flat pD.2 noCD_list.2) pD.1 ⟨λq=>?_,λa o e hb=>(S5.rel.off a o e _ hb).2 (List.mem_map_of_mem (f:=(·.1)) (List.mem_append_right own3 List.mem_cons_self))⟩
 rw[List.map_append,List.map_cons]at q
 have n1:D0∉(own++R).map (·.1):=(List.nodup_cons.mp nd.2.1).1
 rw[List.map_append]at n1
 rcases List.mem_append.mp q with q|q
 ·exact n1 (List.mem_append_left _ q)
 ·rcases List.mem_cons.mp q with q|q
  ·exact hne q.symm
  ·exact n1 (List.mem_append_right _ q)
theorem qHR{It D0:Addr}{o':Obj}{ws:Array Value}{ys:List D}{y:Value}{Q:Value→Shared→Prop}(S7:St c g ((It,o')::(D0,listOf ws k)::R) ρ σ own s)(dvs:DVs g ys ws.toList)(hz:ys.length≤sizeLine)
  (h:∀h8,St c g ((It,o')::(D0,listOf (ws.push y) (k+1))::R) ρ σ own {s with heap:=h8,toks:=s.toks}→Q .none {s with heap:=h8}):wpAny (model pw w) A (call (.builtin "list.append") [.ref D0,y]) Q E s:=by
 have hD:s.heap.get? D0=some (listOf ws k):=PrivAt.flat (S7.rel.priv (D0,listOf ws k) (List.mem_append_right _ (List.mem_cons_of_mem _ List.mem_cons_self))).2 noCD_list.2
 exact append_at hD (λh8 hs8 e8=>h h8 (S7.swap.turnP (tk:=s.toks) noCD_list e8 (λb ob hb e=>(hs8.2 b hb).trans e)).swap) (by rw[←Array.length_toList,dvs.length];exact hz)
theorem qDn{target iter:Expr}{scope:Scope}{use:Option (Value→Sem Unit)}{Q:Value→Shared→Prop}{J:D→Sg→Prop}{Fin:List D→Sg→Prop}
  (hclos:closureFor scope c.env=pure cl)(hcell:∀y∈scope.names,y.2≠.cell)(hkind:scope.kind= .function)(hnames:∀x∈scope.names,x.2= .local→scope.names.lookup x.1=some .local)(hcl:ClOk c cl)(hsub:CSub c scope cl ρ ρ')
  (hs:∀x,foldedSetIterable iter c.env x=pure x)
  (S:St c g R ρ σ own s)(hi:WE c iter ρ σ J X)(hX:∀ev s',PX c g R ρ own X ev s'→E ev s')
  (h:∀d τ,J d τ→CJ c ρ (λI i ys d τ1=>∀C,CBody (c.comp scope cl C) target elt ifs ρ' d τ1 (λy τ2=>I (i+1) (push? ys y) τ2)) Fin d τ)
  (fin:∀g3 σ3 s3 C oC m D ws k ys,Le g g3→St c g3 ((C,oC)::R) ρ σ3 own s3→NsObj oC m→s3.heap.get? D=some (listOf ws k)→g3.get? D=none→Free (own++(C,oC)::R) σ3 D→DVs g3 ys ws.toList→Fin ys σ3→
   compPost (model pw c.w) c.A E use Q (.ref D) C (.ok .next) s3):
  wpAny (model pw c.w) c.A (comprehension (.ListComp elt [⟨target,iter,ifs,0⟩] scope pos) scope c.env (firstIterPos [⟨target,iter,ifs,0⟩] pos) (newList []) false (eval iter c.env) use) Q E s:=by
 refine wpAny_comprehension_free (g:=⟨target,iter,ifs,0⟩) (gs:=[]) rfl hs hclos hkind hnames (wpAny_mono (hi.go g R own s S) (λv s1 p1'=>p1'.el λg1 d τ l1 S1 dv j=>?_) hX)
 obtain⟨ds,KS,hz,src,Iv,i0,iK,step,fin'⟩:=h d τ j
 refine wpAny_mono (src.go g1 R own s1 v S1 dv) (λitv s2 o2'=>x4_5 o2' λIt K g2 o2 e2 l2 IT k2 S2=>?_) λ_ _ x=>x.elim
 subst e2
 refine wpAny_newObj_type (wpAny_newFunctionEnv hcell (by intro y hy;simp at hy) (λh1 hns1 hsb1=>?_) hkind)
 dsimp only at hns1 hsb1 ⊢
 obtain⟨hne,oC,S3⟩:=qJ0 (tk:=s2.toks+([]:List (Str × Value)).length) S2 hkind hcell hcl hsub rfl hns1 hsb1
 generalize Array.size (Heap.objs (Heap.push s2.heap _))=H at hns1 hsb1 hne S3 ⊢
 have loop:∀s3:Shared,s3= {s2 with heap:=h1,toks:=s2.toks+([]:List (Str × Value)).length}→codeAny (model pw c.w) c.A (.compLoop (.ListComp elt [⟨target,iter,ifs,0⟩] scope pos) 0 (.ref It) (.ref s2.heap.objs.size) (compEnvC scope cl H c.env))
   (compPost (model pw c.w) c.A E use Q (.ref s2.heap.objs.size) H) s3:=by
  rintro s3 rfl
  refine qG1 (CI (c.comp scope cl H) g2 (own++R) It s2.heap.objs.size ρ' ds.length Iv K)
   (λn s' o9'=>o9'.el λi ys ws k g3 σ3 own3 o3 hn hy l3 S3 dvs i3 k3=>?_) ds.length (.mk 0 [] (#[]) 0 g2 τ _ o2 rfl (Nat.le_refl _) (Le.refl g2) S3 .nil i0 k2)
  have hf3:∃vs,o3.data= .fields vs:=x2_2 (IT.fields i g3 o3 k3) λvs _ e _=>⟨vs,e⟩
  refine IT.next i g3 _ σ3 o3 s' _ _ S3.rel (iK i ys σ3 i3) (List.mem_append_right _ List.mem_cons_self) k3 (qEo hn) (λd v h' o' tk hd dv k' ho' kb=>?_) λhi' h' tk kb=>?_
  ·have S4:=S3.turnI (tk:=tk) hf3 ho' kb
   have hlt:=(List.getElem?_eq_some_iff.mp hd).1
   refine IT.go k' (s:= {s' with heap:=h',toks:=tk}) ho' ?_
   refine wpAny_mono ((step i ys σ3 d hd i3 H).go.go g3 _ own3 _ v S4 dv) (λ_ s5 p5'=>p5'.el λg5 own5 ρ5 σ5 l5 S5 p5'=>p5'.el λhr wt=>?_) λev s5 x=>x.no
   refine wpAny_mono (wt.go g5 _ own5 s5 S5) (λb s6 o6'=>o6'.el λg6 σ6 l6 S6 q=>?_) λ_ _ x=>x.elim
   have kI:Le g3 g6:=l5.trans l6
   cases b with
   |false=>
    exact(y12 (n - 1) (qB7 hn hlt).1 (.mk (i+1) ys ws k g6 σ6 own5 o' ((qB7 hn hlt).2) (Nat.le_succ_of_le hy) (l3.trans kI) (S6.sub hr) (dvs.mono kI) q (IT.mono _ _ _ _ kI k')))
   |true=>
    refine wpAny_mono (WE.go q g6 _ own5 s6 S6) (λy s7 o7'=>o7'.el λg7 dy σ7 l7 S7 dvy q7=>?_) λev s7 x=>x.no
    refine qHR S7 (dvs.mono (kI.trans l7)) (by omega) λh8 S8=>?_
    have kk:=kI.trans l7
    exact(y12 (n - 1) (qB7 hn hlt).1 (.mk (i+1) (ys++ [dy]) (ws.push y) (k+1) g7 σ7 own5 o' ((qB7 hn hlt).2) ((List.length_append (as:=ys) (bs:=[dy])).symm▸Nat.succ_le_succ hy) (l3.trans kk) (S8.sub hr) (by rw[Array.toList_push];exact(dvs.mono kk).append (.cons dvy .nil)) q7 (IT.mono _ _ _ _ kk k')))
  ·subst hi'
   have S5:=S3.endI (tk:=tk) hf3 kb
   exact qHQ S1 (l2.trans l3) S5 hne λoC5 m5 S6 hn5 hD hg hf=>fin g3 σ3 _ H oC5 m5 s2.heap.objs.size ws k ys ((l1.trans l2).trans l3) S6 hn5 hD hg hf dvs (fin' ys σ3 i3 (Nat.le_trans hy hz))
 exact codeAny_compStart_list (loop _ rfl) (IT.self 0 g2 _ τ o2 _ _ _ S3.rel (iK 0 [] τ i0) (List.mem_append_right _ List.mem_cons_self) k2 (loop _ rfl))
end
section
variable {g3:Heap}{own3:Pv}{ρ3:Ro}{σ3:Sg}{s3:Shared}
theorem St.letGo{C:Addr}{oC:Obj}{m:Str→Option Value}(S:St c g R ρ σ own s)(S3:St c g3 ((C,oC)::R) ρ3 σ3 own3 s3)(ko:own3.map (·.1)=own.map (·.1))(hn:NsObj oC m)(hs:Heap.SameBut C s3.heap h'):St c g3 R ρ3 σ3 own3 {s3 with heap:=h'}:=by
 have sl:(own3++R).Sublist (own3++(C,oC)::R):=(List.Sublist.refl own3).append (List.sublist_cons_self _ R)
 have nd:=S3.rel.nodup
 have pm:(own3++(C,oC)::R).Perm ((C,oC)::(own3++R)):=List.perm_middle
 have hC:C∉(own3++R).map (·.1):=(List.nodup_cons.mp ((pm.map (·.1)).nodup_iff.mp nd)).1
 have hm:(C,oC)∈own3++(C,oC)::R:=List.mem_append_right _ List.mem_cons_self
 have mv:∀{q:Addr × Obj},q∈own3++(C,oC)::R→q.1≠C→q∈own3++R:=λhq n=>by
  rcases List.mem_cons.mp (pm.subset hq)with e|h
  ·rw[e]at n;exact absurd rfl n
  ·exact h
 have fr:g3.get? C=none∧Free (own3++R) σ3 C:=⟨(S3.rel.priv _ hm).1,hC,λa o e hb=>(S3.rel.off a o e C hb).2 (List.mem_map_of_mem (f:=(·.1)) hm)⟩
 refine⟨S3.ok,(S3.rel.sublist sl).aside (f:=λb=>b=C) (λb hb=>by subst hb;exact fr) (λb ob hb q=>(hs.2 b hb).trans q),S3.wd,S3.gens,S3.os,⟨S3.locs.loc,λx d e=>qDq (S3.locs.cel x d e) (λ_ a oc v e1 e3 e2=>mv e2 (λz=>?_)) λ_ h=>h,S3.locs.mine,S3.locs.free,S3.locs.inj⟩,λe he=>?_⟩
 rotate_left
 ·obtain⟨k,L,o,hf,hm3,hd⟩:=S3.frs e he
  obtain⟨_,L',o',hf',hm',_⟩:=S.frs e he
  rw[hf]at hf';injection hf' with hf';subst hf'
  refine⟨k,L,o,hf,mv hm3 λz=>hC ?_,hd⟩
  rw[List.map_append,ko,←List.map_append]
  exact(show L=C from z)▸List.mem_map_of_mem (f:=(·.1)) hm'
 ·obtain⟨es,ep,q,_⟩:=hn
  have z:a=C:=z
  subst z
  have:oc=oC:=qC2 nd e2 hm
  rw[this,q]at e3;cases e3
theorem St.nsC{C:Addr}{oC:Obj}{m:Str→Option Value}(S3:St c g3 ((C,oC)::R) ρ3 σ3 own3 s3)(hn:NsObj oC m):s3.heap.Ns C m:=(S3.rel.priv _ (List.mem_append_right _ List.mem_cons_self)).2.ns hn
noncomputable def COMP(c:Cx)(target elt iter:Expr)(ifs:List Expr)(scope:Scope)(cl:List (Str × Addr))(ρ ρ':Ro)(σ:Sg)(X:Addr→Sg→Prop)(Fin:List D→Sg→Prop):Prop:=
 WE c iter ρ σ (λd τ=>CJ c ρ (λI i ys d τ1=>∀C,CBody (c.comp scope cl C) target elt ifs ρ' d τ1 (λy τ2=>I (i+1) (push? ys y) τ2)) Fin d τ) X
noncomputable def scOk(scope:Scope):Bool:=decide ((∀y∈scope.names,y.2≠.cell)∧∀x∈scope.names,x.2= .local→scope.names.lookup x.1=some .local)
structure CShape(c:Cx)(scope:Scope)(cl:List (Str × Addr))(ρ ρ':Ro):Prop where
 clos:pure cl=closureFor scope c.env
 sc:true=scOk scope
 kind:scope.kind= .function
 ok:ClOk c cl
 sub:CSub c scope cl ρ ρ'
theorem CShape.cell{scope:Scope}(sh:CShape c scope cl ρ ρ'):∀y∈scope.names,y.2≠.cell:=(of_decide_eq_true (p:=(_∧_)) sh.sc.symm).1
theorem CShape.names{scope:Scope}(sh:CShape c scope cl ρ ρ'):∀x∈scope.names,x.2= .local→scope.names.lookup x.1=some .local:=(of_decide_eq_true (p:=(_∧_)) sh.sc.symm).2
theorem qAO{target iter:Expr}{scope:Scope}(sh:CShape c scope cl ρ ρ')(h:COMP c target elt iter ifs scope cl ρ ρ' σ X (λys τ=>Q (.lst ys) τ))
  (hs:autoParam (∀x,pure x=foldedSetIterable iter c.env x) auI):WE c (.ListComp elt [⟨target,iter,ifs,0⟩] scope pos) ρ σ Q X:=.mk λg R own s S=>by
 rw[eval_ListComp]
 refine qDn (use:=none) sh.clos.symm sh.cell sh.kind sh.names sh.ok sh.sub (λx=>(hs x).symm) S h (λ_ _ x=>x) (λd τ j=>j) λg3 σ3 s3 C oC m Da ws k ys l3 S3 hn hD gD fD dvs q=>?_
 refine(y12 m (S3.nsC hn) (λh' hs'=>?_))
 have S4:=S.letGo S3 rfl hn hs'
 have hne:Da≠C:=λz=>fD.1 (by rw[z];exact List.mem_map_of_mem (f:=(·.1)) (List.mem_append_right own List.mem_cons_self))
 have hD':h'.get? Da=some (listOf ws k):=(hs'.2 _ hne).trans hD
 obtain⟨g4,l4,S5,f⟩:=S4.ext (h':=h') (tk:=s3.toks) (λb o e=>e)
 have sl:(own++R).Sublist (own++(C,oC)::R):=(List.Sublist.refl own).append (List.sublist_cons_self _ R)
 have il:=f Da _ hD' ⟨λq=>fD.1 ((sl.map _).subset q),fD.2⟩
 exact(.mk g4 _ σ3 (l3.trans l4) S5 (.lst (vs:=ws.toList) (y13 _ il rfl ⟨_,rfl⟩) (dvs.mono l4)) q)
theorem WE_CompT{target iter:Expr}{scope:Scope}(sh:CShape c scope cl ρ ρ')(h:COMP c target elt iter ifs scope cl ρ ρ' σ X (λys τ=>∀a,τ a=none→Q (.obj a) (τ.set a (.list ys))))
  (hs:autoParam (∀x,pure x=foldedSetIterable iter c.env x) auI):WE c (.ListComp elt [⟨target,iter,ifs,0⟩] scope pos) ρ σ Q X:=.mk λg R own s S=>by
 rw[eval_ListComp]
 refine qDn (use:=none) sh.clos.symm sh.cell sh.kind sh.names sh.ok sh.sub (λx=>(hs x).symm) S h (λ_ _ x=>x) (λd τ j=>j) λg3 σ3 s3 C oC m Da ws k ys l3 S3 hn hD gD fD dvs q=>?_
 refine(y12 m (S3.nsC hn) (λh' hs'=>?_))
 have S4:=S.letGo S3 rfl hn hs'
 have hne:Da≠C:=λz=>fD.1 (by rw[z];exact List.mem_map_of_mem (f:=(·.1)) (List.mem_append_right own List.mem_cons_self))
 have hD':h'.get? Da=some (listOf ws k):=(hs'.2 _ hne).trans hD
 have sl:(own++R).Sublist (own++(C,oC)::R):=(List.Sublist.refl own).append (List.sublist_cons_self _ R)
 have hn':σ3 Da=none:=by
  cases e:σ3 Da with
  |none=>rfl
  |some o=>exact absurd (MO.self Da o) (fD.2 Da o e)
 exact(.mk g3 _ _ l3 ⟨S4.ok,S4.rel.track (o:=.list ys) rfl gD ⟨λq=>fD.1 ((sl.map _).subset q),fD.2⟩ (y22 ws k hD' dvs),S4.wd,S4.gens,S4.os,S4.locs,S4.frs⟩ (.obj _) (q Da hn'))
theorem qAi{X:Ro→Addr→Sg→Prop}{target iter:Expr}{scope:Scope}{p':Pos}(hx:c.env.kindOf x=some .local)(sh:CShape c scope cl ρ ρ')
  (h:COMP c target elt iter ifs scope cl ρ ρ' σ (X ρ) (λys τ=>N (rset ρ x (.lst ys)) τ))
  (hsw:autoParam (pure true=swapsWith (.ListComp elt [⟨target,iter,ifs,0⟩] scope pos) (some (.Name x p')) p.line c.env) auR)
  (hs:autoParam (∀x,pure x=foldedSetIterable iter c.env x) auI):ST c (.Assign [.Name x p'] (.ListComp elt [⟨target,iter,ifs,0⟩] scope pos) p) ρ σ N Rt X:=.mk λg R own s S=>by
 rw[exec_Assign_Name_used _ _ _ _ hsw.symm]
 refine wpAny_bind (wpAny_standAt (wpAny_bind ?_))
 show wpAny _ _ (comprehension (.ListComp elt [⟨target,iter,ifs,0⟩] scope pos) scope c.env (firstIterPos [⟨target,iter,ifs,0⟩] pos) (newList []) false (eval iter c.env) (some (assign (.Name x p') c.env)) >>=λ_=>pure ()) _ _ _
 refine wpAny_bind (qDn (Q:=λ_ s'=>wpAny (model pw c.w) c.A (pure ()) (λ_ s''=>wpAny (model pw c.w) c.A (pure Flow.next) (PF c g R N Rt) (PXs c g R X) s'') (PXs c g R X) s') (use:=some (assign (.Name x p') c.env)) sh.clos.symm sh.cell sh.kind sh.names sh.ok sh.sub (λx=>(hs x).symm) S h (λ_ _ x=>x.toS) (λd τ j=>j)
  λg3 σ3 s3 C oC m Da ws k ys l3 S3 hn hD gD fD dvs q=>?_)
 obtain⟨g4,l4,S5,f⟩:=S3.ext (h':=s3.heap) (tk:=s3.toks) (λb o e=>e)
 have il:=f Da _ hD fD
 refine wpAny_assign_Name (qCw S5 hx (.lst (vs:=ws.toList) (y13 _ il rfl ⟨_,rfl⟩) (dvs.mono l4)) λown' s' ko S6=>?_)
 refine(y12 m (S6.nsC hn) (λh' hs'=>wpAny_pure (wpAny_pure ?_)))
 exact(.mk g4 own' _ σ3 (l3.trans l4) (S.letGo S6 ko hn hs') q)
end
section
variable {n m:Int}{y:Str}
theorem St.tupOf{ops:List D}(S:St c g R ρ σ own s)(k:Le s.heap h')(dvs:DVs g ds vs)(q:Q (.tup ds) σ):PE c g R ρ own Q (.ref h'.objs.size) {s with heap:=h'.push {cls:=.type "tuple",data:=.seq vs.toArray}}:=by
 have S1:=S.heap (S.rel.ext k)
 obtain⟨g2,l2,S2,e⟩:=S1.newObj (o:= {cls:=.type "tuple",data:=.seq vs.toArray}) rfl
 exact(.mk g2 _ σ l2 S2 (.tup (y13 _ e rfl ⟨_,rfl⟩) (dvs.mono l2)) q)
theorem qBy(hz:ds.length≤sizeLine)(q:Q (.tup ds) σ):OC c (.typ "tuple") [.lst ds] ρ σ Q X:=.mk λg R own s vf vs S dv dvs=>by
 refine dv.on λ_=>?_;obtain⟨v1,rfl,d1⟩:=dvs.one;refine d1.on λa us ht hv=>?_
 exact call_tuple_list (ht.at (S.rel.keep _)) (λh' k=>S.tupOf (ops:=[]) k hv q) (by rw[List.size_toArray,hv.length];exact hz)
theorem C_tupL(h:σ a=some (.list ds))(hz:ds.length≤sizeLine)(q:Q (.tup ds) σ):OC c (.typ "tuple") [.obj a] ρ σ Q X:=.mk λg R own s vf vs S dv dvs=>by
 refine dv.on λ_=>?_;obtain⟨v1,rfl,d1⟩:=dvs.one;refine d1.on λ_=>?_
 obtain⟨us,k,h1,hv⟩:=S.rel.rep a _ h
 refine call_tuple_list (items:=us) (y13 _ h1 rfl ⟨_,rfl⟩) (λh' k=>?_) (by rw[←Array.length_toList,hv.length];exact hz)
 exact S.tupOf (vs:=us.toList) (ops:=[]) k hv q
theorem C_tupT(q:Q (.tup ds) σ):OC c (.typ "tuple") [.tup ds] ρ σ Q X:=.mk λg R own s vf vs S dv dvs=>by
 refine dv.on λ_=>?_;obtain⟨v1,rfl,d1⟩:=dvs.one;refine d1.on λa us ht hv=>?_
 exact PyProof.Rows.call_tuple_tup (ht.keeps S.rel.keep) (S.val0 (.tup ht hv) q)
theorem qHE{K:Type} [DecidableEq K]{f:K→D}{knd:KeyKind pw c.w K}(hf:∀k v,knd.is k v=true→DV g (f k) v){es:List (K × D)}{kvs:List (K × Value)}(P:Prs g es kvs)(h:vs.length=kvs.length)(H:∀(j:Nat) (v:Value),vs[j]? =some v→∃k x,kvs[j]? =some (k,x)∧knd.is k v=true):DVs g (es.map λe=>f e.1) vs:=by
 induction P generalizing vs with
 |nil=>
  cases vs with
  |nil=>exact .nil
  |cons v vs=>cases h
 |cons d r ih=>
  cases vs with
  |nil=>cases h
  |cons v vs=>
   obtain⟨k,x,e,hk⟩:=H 0 v rfl
   cases Option.some.inj e
   exact .cons (hf _ _ hk) (ih (Nat.succ.inj h) λj w hj=>H (j+1) w hj)
theorem C_listS{es:List (Str × D)}(hb:c.bare=true)(h:σ a=some (.dstr es))(hz:es.length≤sizeLine)(q:Q (.lst (es.map λe=>.str e.1)) σ):OC c (.typ "list") [.obj a] ρ σ Q X:=.mk λg R own s vf vs S dv dvs=>by
 refine dv.on λ_=>?_;obtain⟨v1,rfl,d1⟩:=dvs.one;refine d1.on λ_=>?_
 obtain⟨kvs,hd,pr⟩:=S.rel.rep a _ h
 obtain⟨ep,hat⟩:=hd.dictAt
 refine kdl_call (kdl_dict (knd:=strKind pw c.w) (S.notSys h)) (S.ok.hh hb) hat (by rw[pr.len];exact hz) λh' tk acc c' k e it=>?_
 obtain⟨g2,l2,S2,f⟩:=S.ext (h':=h') (tk:=tk) k
 have il:=f _ _ e (S.free_new (qAM _))
 refine(.mk g2 _ σ l2 S2 (.lst (vs:=acc.toList) (y13 _ il rfl ⟨_,rfl⟩) ?_) q)
 exact qHE (knd:=strKind pw c.w) (f:=λk=>.str k) (λk v hk=>by obtain⟨t,rfl⟩:=Value.isStrOf_shape hk;exact .str _ _) (pr.mono l2) (by rw[Array.length_toList];exact it.1) λj v hj=>it.2 j v (by simpa using hj)
theorem qJl{es:List (Int × D)}(hb:c.bare=true)(h:σ a=some (.dint es))(hz:es.length≤sizeLine)(q:Q (.lst (es.map λe=>.int e.1)) σ):OC c (.typ "list") [.obj a] ρ σ Q X:=.mk λg R own s vf vs S dv dvs=>by
 refine dv.on λ_=>?_;obtain⟨v1,rfl,d1⟩:=dvs.one;refine d1.on λ_=>?_
 obtain⟨kvs,hd,pr⟩:=S.rel.rep a _ h
 obtain⟨ep,hat⟩:=hd.dictAt
 refine kdl_call (kdl_dict (knd:=intKind pw c.w) (S.notSys h)) (S.ok.hh hb) hat (by rw[pr.len];exact hz) λh' tk acc c' k e it=>?_
 obtain⟨g2,l2,S2,f⟩:=S.ext (h':=h') (tk:=tk) k
 have il:=f _ _ e (S.free_new (qAM _))
 refine(.mk g2 _ σ l2 S2 (.lst (vs:=acc.toList) (y13 _ il rfl ⟨_,rfl⟩) ?_) q)
 exact qHE (knd:=intKind pw c.w) (f:=λk=>.int k) (λk v hk=>by obtain⟨t,rfl⟩:=Value.isInt_shape hk;exact .int _ _) (pr.mono l2) (by rw[Array.length_toList];exact it.1) λj v hj=>it.2 j v (by simpa using hj)
end
noncomputable def qCG(l:List Int):List Int:=l.mergeSort λa b=>decide (a≤b)
theorem sortI_eq{l l':List Int}(p:l'.Perm l)(h:l'.Pairwise (·≤·)):l'=qCG l:=by
 have q:=List.pairwise_mergeSort (le:=λa b:Int=>decide (a≤b)) (λa b c=>by simp;omega) (λa b=>by simp;omega) l
 refine List.Perm.eq_of_pairwise (le:=(·≤·)) (λa b _ _ h1 h2=>Int.le_antisymm h1 h2) h ?_ (p.trans (List.mergeSort_perm l _).symm)
 exact q.imp λh=>by simpa using h
noncomputable def leS(x y:Str):Bool:=!decide (y.cps.toList < x.cps.toList)
noncomputable def qCF(l:List Str):List Str:=l.mergeSort leS
theorem leS_iff{y:Str}:leS x y=true ↔ x.cps.toList≤y.cps.toList:=by
 unfold leS;simp
theorem qFa{y z:Str}(h:leS x y=true)(k:leS y z=true):leS x z=true:=leS_iff.mpr (List.le_trans (leS_iff.mp h) (leS_iff.mp k))
theorem qFS{p:Str}{l:List Str}(h:risingS p l=true):(∀y∈l,leS p y=true)∧l.Pairwise λa b=>leS a b=true:=by
 induction l generalizing p with
 |nil=>exact⟨λy h=>absurd h List.not_mem_nil,.nil⟩
 |cons x r ih=>
  unfold risingS at h
  rw[Bool.and_eq_true]at h
  obtain⟨h1,h2⟩:=h
  have h1:leS p x=true:=by unfold leS;rw[←ltCps_eq];exact h1
  obtain⟨a,b⟩:=ih h2
  refine⟨λy hy=>?_,.cons a b⟩
  rcases List.mem_cons.mp hy with e|hy
  ·rw[e];exact h1
  ·exact qFa h1 (a y hy)
theorem sortS_eq{l l':List Str}(p:l'.Perm l)(h:sortedS l'=true):l'=qCF l:=by
 have q:=List.pairwise_mergeSort (le:=leS) (λa b c h k=>qFa h k) (λa b=>by
  rw[Bool.or_eq_true,leS_iff,leS_iff];exact List.le_total _ _) l
 have hp:l'.Pairwise λa b=>leS a b=true:=by
  cases l' with
  |nil=>exact .nil
  |cons x r=>exact .cons (qFS h).1 (qFS h).2
 refine List.Perm.eq_of_pairwise (le:=λa b=>leS a b=true) (λa b _ _ h1 h2=>?_) hp q (p.trans (List.mergeSort_perm l _).symm)
 have:=List.le_antisymm (leS_iff.mp h1) (leS_iff.mp h2)
 cases a with|mk a=>cases b with|mk b=>exact congrArg _ (Array.toList_inj.mp this)
theorem qEr{ns:List Int}(h:DVs g (ns.map .int) vs):IntsAre vs ns:=by
 induction ns generalizing vs with
 |nil=>exact DVs.end h .nil
 |cons n ns ih=>
  refine DVs.on h λv ws d r=>?_
  exact d.on λt=>.cons n t (ih r)
theorem qEq{ns:List Int}(h:IntsAre vs ns):DVs g (ns.map .int) vs:=by
 induction h with
 |nil=>exact .nil
 |cons n t _ ih=>exact .cons (.int n t) ih
theorem qDC{ns:List Str}(h:DVs g (ns.map .str) vs):StrsAre vs ns:=by
 induction ns generalizing vs with
 |nil=>exact DVs.end h .nil
 |cons n ns ih=>
  refine DVs.on h λv ws d r=>?_
  exact d.on λt=>.cons n t (ih r)
theorem qIQ{ns:List Str}(h:StrsAre vs ns):DVs g (ns.map .str) vs:=by
 induction h with
 |nil=>exact .nil
 |cons n t _ ih=>exact .cons (.str n t) ih
section
variable {ns:List Int}{ss:List Str}
theorem srtI{l:Addr}(S:St c g R ρ σ own s)(hl:s.heap.IsList l vs.toArray)(hI:IntsAre vs ns)(h64:vs.length < 64)(q:Q (.lst ((qCG ns).map .int)) σ):wpAny (model pw c.w) c.A (call (.builtin "sorted") [.ref l]) (PE c g R ρ own Q) (PX c g R ρ own X) s:=by
 refine sorted_ints hl hI h64 λout ns' a1 a2 a3=>?_
 obtain⟨e,he⟩:=sortedAll_at s.heap vs out
 obtain⟨g2,l2,S2,f⟩:=S.ext (h':=sortedAll s.heap vs out) (tk:=s.toks) λb o q=>sortedAll_old q
 have f2:s.heap.get? (s.heap.objs.size+1)=none:=qAU λo q=>Nat.lt_irrefl _ (Nat.lt_trans (Nat.lt_succ_self _) (Heap.lt_size q))
 have il:=f _ _ he (S.free_new f2)
 exact(.mk g2 _ σ l2 S2 (.lst (vs:=out.toList) (y13 _ il rfl ⟨_,rfl⟩) (by rw[←sortI_eq a2 a3];exact qEq a1)) q)
theorem srtS{l:Addr}(S:St c g R ρ σ own s)(hl:s.heap.IsList l vs.toArray)(hI:StrsAre vs ss)(h64:vs.length < 64)(q:Q (.lst ((qCF ss).map .str)) σ):wpAny (model pw c.w) c.A (call (.builtin "sorted") [.ref l]) (PE c g R ρ own Q) (PX c g R ρ own X) s:=by
 refine sorted_strs hl hI h64 λout ns' a1 a2 a3=>?_
 obtain⟨e,he⟩:=sortedAll_at s.heap vs out
 obtain⟨g2,l2,S2,f⟩:=S.ext (h':=sortedAll s.heap vs out) (tk:=s.toks) λb o q=>sortedAll_old q
 have f2:s.heap.get? (s.heap.objs.size+1)=none:=qAU λo q=>Nat.lt_irrefl _ (Nat.lt_trans (Nat.lt_succ_self _) (Heap.lt_size q))
 have il:=f _ _ he (S.free_new f2)
 exact(.mk g2 _ σ l2 S2 (.lst (vs:=out.toList) (y13 _ il rfl ⟨_,rfl⟩) (by rw[←sortS_eq a2 a3];exact qIQ a1)) q)
theorem qFI(h64:ns.length < 64)(q:Q (.lst ((qCG ns).map .int)) σ):OC c (.blt "sorted") [.lst (ns.map .int)] ρ σ Q X:=.mk λg R own s vf vs S dv dvs=>by
 refine dv.on λ_=>?_;obtain⟨v1,rfl,d1⟩:=dvs.one;refine d1.on λa us ht hv=>?_
 exact srtI S (ht.at (S.rel.keep _)) (qEr hv) (by rw[hv.length,List.length_map];exact h64) q
theorem qHY(h64:ss.length < 64)(q:Q (.lst ((qCF ss).map .str)) σ):OC c (.blt "sorted") [.lst (ss.map .str)] ρ σ Q X:=.mk λg R own s vf vs S dv dvs=>by
 refine dv.on λ_=>?_;obtain⟨v1,rfl,d1⟩:=dvs.one;refine d1.on λa us ht hv=>?_
 exact srtS S (ht.at (S.rel.keep _)) (qDC hv) (by rw[hv.length,List.length_map];exact h64) q
theorem C_sortSL(h:σ a=some (.list (ss.map .str)))(h64:ss.length < 64)(q:Q (.lst ((qCF ss).map .str)) σ):OC c (.blt "sorted") [.obj a] ρ σ Q X:=.mk λg R own s vf vs S dv dvs=>by
 refine dv.on λ_=>?_;obtain⟨v1,rfl,d1⟩:=dvs.one;refine d1.on λ_=>?_
 obtain⟨us,k,h1,hv⟩:=S.rel.rep a _ h
 exact srtS (vs:=us.toList) S (y13 _ h1 rfl ⟨_,rfl⟩) (qDC hv) (by rw[hv.length,List.length_map];exact h64) q
end
noncomputable abbrev rngO (a b:Int) (t u v:Tok):Obj:= {cls:=.type "range",data:=.fields #[.int a t,.int b u,.int 1 v]}
noncomputable def qCJ(a b:Int):List D:=(List.range (b - a).toNat).map λi=>.int (a+(i:Nat))
section
variable {n m:Int}
theorem qBE(q:∀t u v,Q (.raw (rngO 0 n t u v)) σ):OC c (.typ "range") [.int n] ρ σ Q X:=.mk λg R own s vf vs S dv dvs=>by
 refine dv.on λ_=>?_;obtain⟨v1,rfl,d1⟩:=dvs.one;refine d1.on λ_=>?_
 refine call_range_1 ?_
 obtain⟨g2,l2,S2,e⟩:=S.newObj (o:=rngO 0 n s.toks _ (s.toks+1)) rfl
 exact(.mk g2 _ σ l2 (S2.toks _) (.raw e) (q _ _ _))
theorem qB4{a z:Int}{t u v:Tok}{KS:Sg→Prop}(hb:c.bare=true)(h1: -(2 ^ 62)≤a∧a < 2 ^ 62)(h2: -(2 ^ 62)≤z∧z < 2 ^ 62):SRC c (.raw (rngO a z t u v)) (qCJ a z) KS ρ σ:=.mk λg R own s vv S dv=>by
 refine dv.on λ_ ho=>?_
 have hsz:=rangeSize_nat a z
 have len:(z - a).toNat=(qCJ a z).length:=by simp[qCJ]
 refine wpAny_pyIter_range (S.rel.keep _ _ ho) (small_one h1.1 h1.2 h2.1 h2.2) (y45 _ (λi g o=>o= {cls:=.type "range_iterator",dict:=none,data:=.fields #[rawInt (a+(i:Nat) * 1),rawInt (((z - a).toNat:Int) - (i:Nat)),rawInt 1],slots:=#[]}) g _ rfl (Le.refl g) ?_ (by rw[hsz];simp) (S.newI rfl))
 have W:Walks pw c.w c.A s.heap.objs.size [s.heap.objs.size] [s.heap.objs.size] (z - a).toNat (λi v=>i < (z - a).toNat∧∃t,v= .int (a+i * 1) t) (λi h=>IsRangeIter h s.heap.objs.size (a+(i:Nat) * 1) (((z - a).toNat:Int) - (i:Nat)) 1):=(Walks.range (S.ok.hh hb) _ a 1 (z - a).toNat).bound
 refine Itr.ofWalks W len (λi g g' o k e=>e) (λi g o e=>by subst e;exact(y23 _ _ rfl rfl (by decide))) λi g R σ o h r _ ho e=>(y03 (by show h.get? _=_;rw[ho,e]) (λv ⟨hi,t,ev⟩=>?_) (λh' st=>(y12 _ st rfl)))
 subst ev
 refine(y12 (.int (a+(i:Nat))) ?_ (by rw[Int.mul_one];exact .int _ _))
 unfold qCJ
 rw[List.getElem?_map,List.getElem?_range hi];rfl
theorem qFK{ns:List Int}(hb:c.bare=true)(hr:∀n∈ns,0≤n∧n < 256)(hz:ns.length≤sizeLine)(q:Q (.bytes (byteArr ns)) σ):OC c (.typ "bytes") [.lst (ns.map .int)] ρ σ Q X:=.mk λg R own s vf vs S dv dvs=>by
 refine dv.on λ_=>?_;obtain⟨v1,rfl,d1⟩:=dvs.one;refine d1.on λa us ht hv=>?_
 refine call_bytes_ints (ht.at (S.rel.keep _)) (qEr hv) hr (by rw[hv.length,List.length_map];exact hz) (S.ok.hh hb) λh' t k le=>?_
 have S':=S.heap (S.rel.ext le)
 exact(.mk g _ σ (Le.refl g) (S'.toks k) (.bytes _ _) q)
theorem qJZ{KS:Sg→Prop}(hb:c.bare=true):SRC c (.bytes b) (b.toList.map λu=>.int u.toNat) KS ρ σ:=.mk λg R own s vv S dv=>by
 refine dv.on λt=>?_
 refine KBw.pyIter_bytes (y45 _ (λi g o=>o.cls= .type "bytes_iterator"∧o.data= .fields #[.bytes b t,.int i 0]) g _ rfl (Le.refl g) ?_ ⟨rfl,rfl⟩ (S.newI rfl))
 refine Itr.ofWalks (KBw.walks (S.ok.hh hb) _ b t) (by simp) (λi g g' o k e=>e) (λi g o o2'=>x0_2 o2' λe1 e2=>(y23 _ _ e2 e1 (by decide))) λi g R σ o h r _ ho o3'=>x0_2 o3' λe1 e2=>(y03 (y13 o ho e1 e2) (λv o4'=>x2_2 o4' λc u e ev=>?_) (λh' o2'=>x1_3 o2' λo' ho' hc hd=>(y13 o' ho' hc hd)))
 subst ev
 exact(y12 (.int c.toNat) (by rw[List.getElem?_map,Array.getElem?_toList,e];rfl) (.int _ _))
end
open PySem.SeqAt in
theorem rc_bytes(A:Around)(s:Shared)(b:Array UInt8)(t:Tok)(c:Array UInt8)(u:Tok):RcAt A s (.bytes b t) (.bytes c u) (b.toList==c.toList):=λprog w E Q h=>
 richCompare_gives (typeIs_bytes s b t) (typeIs_bytes s c u) FB.slot_bytes_eq FB.entry_bytes_eq (FB.args_bytes_eq_2 _ _) (gives_bytes_eq b c t u) (λe=>nomatch e) h
class inductive Pln:Nat→D→Prop
 |none (n:Nat):Pln n .none
 |bool (n:Nat) (b:Bool):Pln n (.bool b)
 |int (n:Nat) (i:Int):Pln n (.int i)
 |str (n:Nat) (x:Str):Pln n (.str x)
 |bytes (n:Nat) (b:Array UInt8):Pln n (.bytes b)
 |tup {n:Nat} {l:List D}:(∀d∈l,Pln n d)→Pln (n+1) (.tup l)
 |lst {n:Nat} {l:List D}:(∀d∈l,Pln n d)→Pln (n+1) (.lst l)
theorem DVs.both{us:List Value}(a:DVs g ds us)(b:DVs g ds vs)(j:Nat)(h1:j < us.length)(h2:j < vs.length):∃d,d∈ds∧DV g d us[j]∧DV g d vs[j]:=by
 have hd:j < ds.length:=a.1▸h1
 exact y13 ds[j] (List.getElem_mem hd) (a.2 j _ _ (List.getElem?_eq_getElem hd) (List.getElem?_eq_getElem h1)) (b.2 j _ _ (List.getElem?_eq_getElem hd) (List.getElem?_eq_getElem h2))
open PySem.SeqAt in
theorem eq_tup{v':Value}(hu:A.units < cLine)(d1:DV s.heap (.tup ds) v)(d2:DV s.heap (.tup ds) v')
  (ih:∀d∈ds,∀u u',DV s.heap d u→DV s.heap d u'→EqAt A.in1 s u u' true):(EqAt A s v v' true∧RcAt A s v v' true∧RcNeAt A s v v' false):=by
 refine d1.on λa us h1 d1=>?_
 refine d2.on λb vs h2 d2=>?_
 have hl:us.length=vs.length:=by rw[d1.length,d2.length]
 have he:∀j (h1:j < us.toArray.size) (h2:j < vs.toArray.size),EqAt A.in1 s us.toArray[j] vs.toArray[j] ((λ_=>true) j):=λj x y=>by
  obtain⟨d,m,p1,p2⟩:=d1.both d2 j (by simpa using x) (by simpa using y)
  exact ih d m _ _ (by simpa using p1) (by simpa using p2)
 have e:((List.range (min us.toArray.size vs.toArray.size)).all (λ_=>true) && us.toArray.size==vs.toArray.size)=true:=by simp[hl]
 have r:=RcAt.tuples (A:=A) (s:=s) (e:=λ_=>true) h1 h2 hu he
 have q:=RcNeAt.tuples (A:=A) (s:=s) (e:=λ_=>true) h1 h2 hu he
 rw[e]at r q
 refine(y03 ?_ r q)
 by_cases hab:a=b
 ·subst hab;exact EqAt.same _
 ·exact EqAt.of_refs hab r
open PySem.SeqAt in
theorem eq_lst{v':Value}(hu:A.units < cLine)(d1:DV s.heap (.lst ds) v)(d2:DV s.heap (.lst ds) v')
  (ih:∀d∈ds,∀u u',DV s.heap d u→DV s.heap d u'→EqAt A.in1 s u u' true):(EqAt A s v v' true∧RcAt A s v v' true∧RcNeAt A s v v' false):=by
 refine d1.on λa us h1 d1=>?_
 refine d2.on λb vs h2 d2=>?_
 have hl:us.length=vs.length:=by rw[d1.length,d2.length]
 have he:∀j (h1:j < us.toArray.size) (h2:j < vs.toArray.size),EqAt A.in1 s us.toArray[j] vs.toArray[j] ((λ_=>true) j):=λj x y=>by
  obtain⟨d,m,p1,p2⟩:=d1.both d2 j (by simpa using x) (by simpa using y)
  exact ih d m _ _ (by simpa using p1) (by simpa using p2)
 have e:((List.range us.toArray.size).all (λ_=>true))=true:=by simp
 have r:=RcAt.lists (A:=A) (s:=s) (e:=λ_=>true) h1 h2 (by simpa using hl) hu he
 have q:=RcNeAt.lists (A:=A) (s:=s) (e:=λ_=>true) h1 h2 (by simpa using hl) hu he
 rw[e]at r q
 refine(y03 ?_ r q)
 by_cases hab:a=b
 ·subst hab;exact EqAt.same _
 ·exact EqAt.of_refs hab r
open PySem.SeqAt in
theorem eq_pln(p:Pln n d):∀(A:Around) (v v':Value),A.units+n < cLine→DV s.heap d v→DV s.heap d v'→EqAt A s v v' true:=by
 induction p with
 |none n=>intro A v v' hu d1 d2;refine d1.on λ_=>?_;refine d2.on λ_=>?_;exact EqAt.same _
 |bool n b=>intro A v v' hu d1 d2;refine d1.on λ_=>?_;refine d2.on λ_=>?_;exact EqAt.same _
 |int n i=>intro A v v' hu d1 d2;refine d1.on λt=>?_;refine d2.on λu=>?_;simpa using EqAt.int_int (A:=A) (s:=s) i t i u
 |str n i=>intro A v v' hu d1 d2;refine d1.on λt=>?_;refine d2.on λu=>?_;simpa using EqAt.str_str (A:=A) (s:=s) i t i u
 |bytes n b=>
  intro A v v' hu d1 d2;refine d1.on λt=>?_;refine d2.on λu=>?_
  intro prog w E Q h
  refine wpAny_holding ?_
  refine wpAny_ite_split (λ_=>?_) (λ_=>?_)
  ·exact wpAny_bind (wpAny_rule (wpAny_pure h))
  ·exact wpAny_bind (rc_bytes A s b t b u prog w E _ (by rw[beq_self_eq_true];exact wpAny_truthy_bool h))
 |tup p ih=>intro A v v' hu d1 d2;exact(eq_tup (by omega) d1 d2 λd m u u' x y=>ih d m A.in1 u u' (by show A.units+1+_ < cLine;omega) x y).1
 |lst p ih=>intro A v v' hu d1 d2;exact(eq_lst (by omega) d1 d2 λd m u u' x y=>ih d m A.in1 u u' (by show A.units+1+_ < cLine;omega) x y).1
section
open PySem.SeqAt
theorem qIE(p:Pln n (.tup ds))(hn:n≤100)(q:Q (.bool false) σ):O2 c (compareOp .NotEq) (.tup ds) (.tup ds) ρ σ Q X:=.mk λg R own s va vb S da db=>by
 have hu:=S.ok.hu
 cases p with| @tup m _ p=>?_
 refine(eq_tup (by omega) (da.mono S.rel.keep) (db.mono S.rel.keep) λd m u u' x y=>eq_pln (p d m) c.A.in1 u u' (by show c.A.units+1+_ < cLine;omega) x y).2.2 _ _ _ _ ?_
 exact S.val0 (.bool _) q
theorem qG7{xs ys:List Str}:((List.range (min xs.length ys.length)).all (λj=>xs[j]? ==ys[j]?) && xs.length==ys.length)=decide (xs=ys):=by
 rw[Bool.eq_iff_iff]
 simp only[Bool.and_eq_true,List.all_eq_true,List.mem_range,beq_iff_eq,decide_eq_true_eq]
 constructor
 ·rintro⟨h,l⟩
  refine List.ext_getElem? λj=>?_
  by_cases hj:j < min xs.length ys.length
  ·exact h j hj
  ·rw[List.getElem?_eq_none (by omega),List.getElem?_eq_none (by omega)]
 ·rintro rfl;simp
theorem eq_strs{xs ys:List Str}{us:List Value}(d1:DVs s.heap (xs.map .str) us)(d2:DVs s.heap (ys.map .str) vs):
  us.length=xs.length∧vs.length=ys.length∧∀j (h1:j < us.toArray.size) (h2:j < vs.toArray.size),EqAt A s us.toArray[j] vs.toArray[j] (xs[j]? ==ys[j]?):=by
 have l1:us.length=xs.length:=by rw[d1.length,List.length_map]
 have l2:vs.length=ys.length:=by rw[d2.length,List.length_map]
 refine(y03 l1 l2 (λj h1 h2=>?_))
 have h1:j < xs.length:=by simpa [l1] using h1
 have h2:j < ys.length:=by simpa [l2] using h2
 obtain⟨v1,e1,p1⟩:=d1.get (k:=j) (d:=.str xs[j]) (by simp[h1])
 obtain⟨v2,e2,p2⟩:=d2.get (k:=j) (d:=.str ys[j]) (by simp[h2])
 obtain⟨a1,e1⟩:=List.getElem?_eq_some_iff.1 e1
 obtain⟨a2,e2⟩:=List.getElem?_eq_some_iff.1 e2
 rw[List.getElem?_eq_getElem h1,List.getElem?_eq_getElem h2]
 simp only[List.getElem_toArray,e1,e2]
 refine p1.on λt=>?_
 refine p2.on λu=>?_
 simpa using EqAt.str_str (A:=A) (s:=s) xs[j] t ys[j] u
theorem O_eqTs{xs ys:List Str}(q:Q (.bool (decide (xs=ys))) σ):O2 c (compareOp .Eq) (.tup (xs.map .str)) (.tup (ys.map .str)) ρ σ Q X:=.mk λg R own s va vb S da db=>by
 have hu:=S.ok.hu
 have da:=da.mono S.rel.keep
 have db:=db.mono S.rel.keep
 refine da.on λa us h1 d1=>?_
 refine db.on λb vs h2 d2=>?_
 obtain⟨l1,l2,he⟩:=eq_strs (A:=c.A.in1) d1 d2
 have r:=RcAt.tuples (A:=c.A) (s:=s) h1 h2 (by omega) he
 rw[List.size_toArray,List.size_toArray,l1,l2,qG7]at r
 exact r _ _ _ _ (S.val0 (.bool _) q)
theorem O_eqL0(q:Q (.bool ds.isEmpty) σ):O2 c (compareOp .Eq) (.lst ds) (.lst []) ρ σ Q X:=.mk λg R own s va vb S da db=>by
 have hu:=S.ok.hu
 have da:=da.mono S.rel.keep
 have db:=db.mono S.rel.keep
 refine da.on λa us h1 d1=>?_
 refine db.on λb vs h2 d2=>?_
 obtain rfl:vs= []:=d2.end rfl
 cases ds with
 |nil=>
  obtain rfl:us= []:=d1.end rfl
  have r:=RcAt.lists (A:=c.A) (s:=s) (e:=λ_=>true) h1 h2 rfl (by omega) (λj x y=>absurd x (by simp))
  exact r _ _ _ _ (S.val0 (.bool _) q)
 |cons x xs=>
  revert h1
  refine d1.on λv us _ _ h1=>?_
  have r:=RcAt.lists_lengths (A:=c.A) (s:=s) h1 h2 (by simp) (by omega)
  exact r _ _ _ _ (S.val0 (.bool _) q)
theorem qJA{α:Type} [BEq α] [LawfulBEq α] [DecidableEq α](y x:α):(y==x)=decide (x=y):=by
 by_cases h:y=x
 ·subst h;rw[beq_self_eq_true,decide_eq_true rfl]
 ·rw[beq_false_of_ne h,decide_eq_false (Ne.symm h)]
noncomputable def strE(x:Str)(v:Value):Bool:=if e:v.ctorIdx=6 then Value.str.elim (motive:=λ_=>Bool) v e λy _=>y==x else false
noncomputable def intE(n:Int)(v:Value):Bool:=if e:v.ctorIdx=4 then Value.int.elim (motive:=λ_=>Bool) v e λm _=>m==n else false
theorem qEs{t:Tok}{xs:List Str}{us:List Value}(d:DVs g (xs.map .str) us):(∀y,y∈us.toArray→EqAt A s y (.str x t) (strE x y))∧us.toArray.any (strE x)=decide (x∈xs):=by
 rw[List.any_toArray]
 induction xs generalizing us with
 |nil=>refine d.end ?_;exact⟨λ_ m=>absurd m (by simp),by simp⟩
 |cons y ys ih=>
  refine d.on λv vs dv r=>?_
  refine dv.on λu=>?_
  obtain⟨p,q⟩:=ih r
  refine⟨λz m=>?_,?_⟩
  ·rcases(by simpa using m:z= .str y u∨z∈vs)with rfl|m
   ·exact EqAt.str_str y u x t
   ·exact p z (by simpa using m)
  ·rw[List.any_cons,q];show((y==x) || decide (x∈ys))=_;simp only[List.mem_cons,Bool.decide_or,qJA]
theorem in_ints{x:Int}{t:Tok}{xs:List Int}{us:List Value}(d:DVs g (xs.map .int) us):(∀y,y∈us.toArray→EqAt A s y (.int x t) (intE x y))∧us.toArray.any (intE x)=decide (x∈xs):=by
 rw[List.any_toArray]
 induction xs generalizing us with
 |nil=>refine d.end ?_;exact⟨λ_ m=>absurd m (by simp),by simp⟩
 |cons y ys ih=>
  refine d.on λv vs dv r=>?_
  refine dv.on λu=>?_
  obtain⟨p,q⟩:=ih r
  refine⟨λz m=>?_,?_⟩
  ·rcases(by simpa using m:z= .int y u∨z∈vs)with rfl|m
   ·exact EqAt.int_int y u x t
   ·exact p z (by simpa using m)
  ·rw[List.any_cons,q];show((y==x) || decide (x∈ys))=_;simp only[List.mem_cons,Bool.decide_or,qJA]
variable {xs:List Str}{ns:List Int}{i:Int}
theorem O_ninT(q:Q (.bool (!decide (x∈xs))) σ):O2 c (compareOp .NotIn) (.str x) (.tup (xs.map .str)) ρ σ Q X:=.mk λg R own s va vb S da db=>by
 refine da.on λ_=>?_;refine(db.mono S.rel.keep).on λb vs h2 d2=>?_
 obtain⟨p,r⟩:=qEs d2
 exact notIn_tupleAt _ h2 p (S.val0 (.bool _) (r▸q))
theorem qFG(q:Q (.bool (!decide (i∈ns))) σ):O2 c (compareOp .NotIn) (.int i) (.tup (ns.map .int)) ρ σ Q X:=.mk λg R own s va vb S da db=>by
 refine da.on λ_=>?_;refine(db.mono S.rel.keep).on λb vs h2 d2=>?_
 obtain⟨p,r⟩:=in_ints d2
 exact notIn_tupleAt _ h2 p (S.val0 (.bool _) (r▸q))
theorem O_inL(q:Q (.bool (decide (x∈xs))) σ):O2 c (compareOp .In) (.str x) (.lst (xs.map .str)) ρ σ Q X:=.mk λg R own s va vb S da db=>by
 refine da.on λ_=>?_;refine(db.mono S.rel.keep).on λb vs h2 d2=>?_
 obtain⟨p,r⟩:=qEs d2
 exact in_listAt _ h2 p (S.val0 (.bool _) (r▸q))
theorem O_ninL(q:Q (.bool (!decide (x∈xs))) σ):O2 c (compareOp .NotIn) (.str x) (.lst (xs.map .str)) ρ σ Q X:=.mk λg R own s va vb S da db=>by
 refine da.on λ_=>?_;refine(db.mono S.rel.keep).on λb vs h2 d2=>?_
 obtain⟨p,r⟩:=qEs d2
 exact notIn_listAt _ h2 p (S.val0 (.bool _) (r▸q))
theorem O_ninO(h:σ a=some (.list (xs.map .str)))(q:Q (.bool (!decide (x∈xs))) σ):O2 c (compareOp .NotIn) (.str x) (.obj a) ρ σ Q X:=.mk λg R own s va vb S da db=>by
 refine da.on λ_=>?_;refine db.on λ_=>?_
 obtain⟨vs,n,h2,d2⟩:=S.rel.rep a _ h
 obtain⟨p,r⟩:=qEs d2
 exact notIn_listAt (items:=vs) _ (y13 _ h2 rfl ⟨_,rfl⟩) p (S.val0 (.bool _) (r▸q))
end
section
variable {es:List D}
abbrev kCh4(c:Cx)(o2:CmpOp)(r2:Expr)(ρ:Ro)(Q:D→Sg→Prop)(X:Addr→Sg→Prop)(b d:D):Bool→Sg→Prop:=λt ψ=>if t then WE c r2 ρ ψ (kO2 c X ρ (compareOp o2) b Q) X else Q d ψ
abbrev kCh3(c:Cx)(o2:CmpOp)(r2:Expr)(ρ:Ro)(Q:D→Sg→Prop)(X:Addr→Sg→Prop)(b:D):D→Sg→Prop:=λd φ=>OT c d ρ φ (kCh4 c o2 r2 ρ Q X b d) X
abbrev kCh2(c:Cx)(o1 o2:CmpOp)(r2:Expr)(ρ:Ro)(Q:D→Sg→Prop)(X:Addr→Sg→Prop)(a:D):D→Sg→Prop:=λb υ=>O2 c (compareOp o1) a b ρ υ (kCh3 c o2 r2 ρ Q X b) X
abbrev kCh(c:Cx)(o1 o2:CmpOp)(r1 r2:Expr)(ρ:Ro)(Q:D→Sg→Prop)(X:Addr→Sg→Prop):D→Sg→Prop:=λa τ=>WE c r1 ρ τ (kCh2 c o1 o2 r2 ρ Q X a) X
abbrev kChB4(c:Cx)(o2:CmpOp)(r2:Expr)(ρ:Ro)(Q:Bool→Sg→Prop)(X:Addr→Sg→Prop)(b:D):Bool→Sg→Prop:=λt ψ=>if t then WE c r2 ρ ψ (kO2 c X ρ (compareOp o2) b (kT c X ρ Q)) X else Q false ψ
abbrev kChB3(c:Cx)(o2:CmpOp)(r2:Expr)(ρ:Ro)(Q:Bool→Sg→Prop)(X:Addr→Sg→Prop)(b:D):D→Sg→Prop:=λd φ=>OT c d ρ φ (kChB4 c o2 r2 ρ Q X b) X
abbrev kChB2(c:Cx)(o1 o2:CmpOp)(r2:Expr)(ρ:Ro)(Q:Bool→Sg→Prop)(X:Addr→Sg→Prop)(a:D):D→Sg→Prop:=λb υ=>O2 c (compareOp o1) a b ρ υ (kChB3 c o2 r2 ρ Q X b) X
abbrev kChB(c:Cx)(o1 o2:CmpOp)(r1 r2:Expr)(ρ:Ro)(Q:Bool→Sg→Prop)(X:Addr→Sg→Prop):D→Sg→Prop:=λa τ=>WE c r1 ρ τ (kChB2 c o1 o2 r2 ρ Q X a) X
theorem kChB4_t{o2:CmpOp}{r2:Expr}{b:D}{Q:Bool→Sg→Prop}{t:Bool}(e:true=t)(h:WE c r2 ρ σ (kO2 c X ρ (compareOp o2) b (kT c X ρ Q)) X):kChB4 c o2 r2 ρ Q X b t σ:=by subst e;exact h
theorem WE_Chain{l r1 r2:Expr}{o1 o2:CmpOp}
  (h:WE c l ρ σ (kCh c o1 o2 r1 r2 ρ Q X) X)
  (hm:autoParam (false=lastMarks [o1,o2] [r1,r2]) auR):WE c (.Compare l [o1,o2] [r1,r2] p) ρ σ Q X:=.mk λg R own s S=>
 Compare_chain (h.use S (λg1 a τ va s1 l1 S1 da q=>chain_link (q.use S1 (λg2 b υ vb s2 l2 S2 db q2=>
  wpAny_mono (q2.go g2 R own s2 va vb S2 (da.mono l2) db) (λv s3 p9=>p9.el λg3 d φ l3 S3 dv q3=>
   wpAny_mono (q3.go g3 R own s3 v S3 dv) (λt s4 p9=>p9.el λg4 ψ l4 S4 q4=>by
    cases t with
    |false=>rw[if_neg (by decide)];exact(.mk g4 d ψ (((l1.trans l2).trans l3).trans l4) S4 (dv.mono l4) q4)
    |true=>
     rw[if_pos rfl]
     exact chain_last (WE.use q4 S4 (λg5 e χ ve s5 l5 S5 de q5=>wpAny_mono (q5.go g5 R own s5 vb ve S5 (((db.mono l3).mono l4).mono l5) de)
      (λ_ _ p=>((((p.le l5).le l4).le l3).le l2).le l1) λ_ _ p=>((((p.le l5).le l4).le l3).le l2).le l1) λ_ _ p=>(((p.le l4).le l3).le l2).le l1)) λ_ _ p=>((p.le l3).le l2).le l1)
   λ_ _ p=>(p.le l2).le l1) λ_ _ p=>p.le l1)) λ_ _ x=>x) hm.symm
theorem WB_Chain{l r1 r2:Expr}{o1 o2:CmpOp}{Q:Bool→Sg→Prop}
  (h:WE c l ρ σ (kChB c o1 o2 r1 r2 ρ Q X) X)
  (hm:autoParam (false=lastMarks [o1,o2] [r1,r2]) auR):WB c (.Compare l [o1,o2] [r1,r2] p) ρ σ Q X:=.mk λg R own s S=>
 isTrue_chain (h.use S (λg1 a τ va s1 l1 S1 da q=>test_link (q.use S1 (λg2 b υ vb s2 l2 S2 db q2=>
  wpAny_mono (q2.go g2 R own s2 va vb S2 (da.mono l2) db) (λv s3 p9=>p9.el λg3 d φ l3 S3 dv q3=>
   wpAny_mono (q3.go g3 R own s3 v S3 dv) (λt s4 p9=>p9.el λg4 ψ l4 S4 q4=>by
    cases t with
    |false=>rw[if_neg (by decide)];exact(.mk g4 ψ (((l1.trans l2).trans l3).trans l4) S4 q4)
    |true=>
     rw[if_pos rfl]
     exact test_last (q4.use S4 (λg5 e χ ve s5 l5 S5 de q5=>wpAny_mono (q5.go g5 R own s5 vb ve S5 (((db.mono l3).mono l4).mono l5) de)
      (λv s6 p9=>p9.el λg6 d6 φ6 l6 S6 dv6 q6=>wpAny_mono (q6.go g6 R own s6 v S6 dv6) (λ_ _ p=>(((((p.le l6).le l5).le l4).le l3).le l2).le l1) λ_ _ p=>(((((p.le l6).le l5).le l4).le l3).le l2).le l1)
      λ_ _ p=>((((p.le l5).le l4).le l3).le l2).le l1) λ_ _ p=>(((p.le l4).le l3).le l2).le l1)) λ_ _ p=>((p.le l3).le l2).le l1)
   λ_ _ p=>(p.le l2).le l1) λ_ _ p=>p.le l1)) λ_ _ x=>x) hm.symm
theorem O_addL(hz:ds.length+es.length≤sizeLine)(q:Q (.lst (ds++es)) σ):O2 c (binaryOp .Add) (.lst ds) (.lst es) ρ σ Q X:=.mk λg R own s va vb S da db=>by
 refine da.on λl us hl d1=>?_
 refine db.on λb vs hb d2=>?_
 have hl:=hl.at (S.rel.keep l)
 have hb:=hb.at (S.rel.keep b)
 obtain⟨⟨cls,dd,data,sl⟩,ho,hc,n,hd⟩:=id hl
 obtain⟨⟨cls2,dd2,data2,sl2⟩,ho2,hc2,n2,hd2⟩:=id hb
 simp only at hc hd hc2 hd2
 subst hc hd hc2 hd2
 have e:us.toArray++vs.toArray=(us++vs).toArray:=by simp
 refine concat_meets (y12 _ ho rfl) (y12 _ ho2 rfl) noFill_list_add seq_list_add PySem.F.slot_list_add PySem.F.entry_list_add (PySem.F.args_list_add_2 _ _) (list_addW l b us.toArray vs.toArray n n2 dd dd2 sl sl2 (by rw[List.size_toArray,List.size_toArray,d1.length,d2.length];exact hz)) (y03 ho ho2 ?_)
 rw[e]
 obtain⟨g2,l2,S2,f⟩:=S.newObj (o:= {cls:=.type "list",data:=.seq (us++vs).toArray}) rfl
 exact(.mk g2 _ σ l2 S2 (.lst (y13 _ f rfl ⟨_,rfl⟩) ((d1.append d2).mono l2)) q)
theorem O_addT(hz:ds.length+es.length≤sizeLine)(q:Q (.tup (ds++es)) σ):O2 c (binaryOp .Add) (.tup ds) (.tup es) ρ σ Q X:=.mk λg R own s va vb S da db=>by
 refine da.on λt us ht0 d1=>?_
 refine db.on λb vs hb0 d2=>?_
 have ht:=ht0.keeps S.rel.keep
 have hb:=hb0.keeps S.rel.keep
 obtain⟨⟨cls,dd,data,sl⟩,ho,hc,n,hd⟩:=id ht
 obtain⟨⟨cls2,dd2,data2,sl2⟩,ho2,hc2,n2,hd2⟩:=id hb
 simp only at hc hd hc2 hd2
 subst hc hd hc2 hd2
 have e:us.toArray++vs.toArray=(us++vs).toArray:=by simp
 by_cases hv:us= []
 ·refine concat_meets (y12 _ ho rfl) (y12 _ ho2 rfl) noFill_tuple_add seq_tuple_add PySem.F.slot_tuple_add PySem.F.entry_tuple_add (PySem.F.args_tuple_add_2 _ _)
   (tuple_addW0 t b us.toArray vs.toArray n n2 dd dd2 sl sl2 (by simp[hv])) (y03 ho ho2 (S.val0 (d:=.tup (ds++es)) (.tup hb0 ?_) q))
  subst hv;cases ds with
  |nil=>exact d2
  |cons d ds=>exact nomatch d1.1
 ·by_cases hw:vs= []
  ·refine concat_meets (y12 _ ho rfl) (y12 _ ho2 rfl) noFill_tuple_add seq_tuple_add PySem.F.slot_tuple_add PySem.F.entry_tuple_add (PySem.F.args_tuple_add_2 _ _)
    (tuple_addW1 t b us.toArray vs.toArray n n2 dd dd2 sl sl2 (by simpa using hv) (by simp[hw])) (y03 ho ho2 (S.val0 (d:=.tup (ds++es)) (.tup ht0 ?_) q))
   subst hw;cases es with
   |nil=>rw[List.append_nil];exact d1
   |cons d es=>exact nomatch d2.1
  ·refine concat_meets (y12 _ ho rfl) (y12 _ ho2 rfl) noFill_tuple_add seq_tuple_add PySem.F.slot_tuple_add PySem.F.entry_tuple_add (PySem.F.args_tuple_add_2 _ _)
    (tuple_addW2 t b us.toArray vs.toArray n n2 dd dd2 sl sl2 (by simpa using hv) (by simpa using hw) (by rw[List.size_toArray,List.size_toArray,d1.length,d2.length];exact hz)) (y03 ho ho2 ?_)
   rw[e]
   obtain⟨g2,l2,S2,f⟩:=S.newObj (o:= {cls:=.type "tuple",data:=.seq (us++vs).toArray}) rfl
   exact(.mk g2 _ σ l2 S2 (.tup (y13 _ f rfl ⟨_,rfl⟩) ((d1.append d2).mono l2)) q)
theorem T_lst{Q:Bool→Sg→Prop}(hz:ds.length≤sizeLine)(q:Q (!ds.isEmpty) σ):OT c (.lst ds) ρ σ Q X:=.mk λg R own s v S dv=>by
 refine dv.on λl us hl d1=>?_
 have e:us.toArray.isEmpty=ds.isEmpty:=by
  cases ds with
  |nil=>exact d1.end rfl
  |cons d ds=>exact d1.on λ_ _ _ _=>rfl
 refine wpAny_truthy_list (hl.at (S.rel.keep l)) (by rw[List.size_toArray,d1.length];have:sizeLine=16777216:=rfl;omega) ?_
 rw[e]
 exact(.mk g σ (Le.refl g) (S.toks _) q)
theorem qIx{it t:Addr}{items:Array Value}(hne:t≠it)(n i:Nat)(s:Shared)(Q:List Value→Shared→Prop)(hit:s.heap.IsListIter it t i)(ht:s.heap.IsList t items)(hle:i+n≤items.size)
  (hQ:∀h',h'.IsListIter it t (i+n)→Heap.SameBut it s.heap h'→Q ((items.toList.drop i).take n) {s with heap:=h'}):wpAny (model pw w) A (draw (.ref it) n) Q E s:=by
 induction n generalizing i s Q with
 |zero=>
  exact wpAny_pure (by simpa using hQ s.heap hit (Heap.SameBut.refl ..))
 |succ n ih=>
  have hlt:i < items.size:=by omega
  refine wpAny_bind (wpAny_pyNext_list_item hit ht (x:=items[i]) (by simp[hlt]) λh₁ hit₁ hs₁=>?_)
  refine wpAny_bind (wpAny_holding (ih (i+1) _ _ hit₁ (ht.extBut hs₁.extBut hne) (by omega) λh₂ hit₂ hs₂=>wpAny_pure ?_))
  have hd:items.toList.drop i=items[i]::items.toList.drop (i+1):=by simp[List.drop_eq_getElem_cons,hlt]
  have:=hQ h₂ (by rw[show i+(n+1)=i+1+n by omega];exact hit₂) (hs₁.trans hs₂)
  rw[hd,List.take_succ_cons]at this
  exact this
theorem AS_lst{ts:List Expr}(hb:c.bare=true)(h:ASs c ts ds ρ σ N)(hn:autoParam (ds.length=(assignEach ts c.env).length) auR)(hs:autoParam (none=(assignEach ts c.env).findIdx? (·.1)) auR):
  AS c (.Tuple ts k p) (.lst ds) ρ σ N X:=.mk λg R own s v S dv=>by
 refine dv.on λl us hl d1=>?_
 have hl:=hl.at (S.rel.keep l)
 show wpAny _ _ (assign _ _ _) _ _ _
 rw[assign_Tuple]
 refine wpAny_bind (wpAny_standAt ?_)
 refine wpAny_bind (wpAny_holding ?_)
 rw[hs.symm,hn.symm,←d1.length]
 have hlt:l≠s.heap.objs.size:=by obtain⟨o,ho,_⟩:=hl;exact Nat.ne_of_lt (Heap.lt_size ho)
 unfold unpackItems
 refine wpAny_bind ?_
 unfold notIterableAtAll
 refine wpAny_bind (wpAny_specialOf hl.typeIs PySem.F.slot_list_iter.lookup ?_)
 refine wpAny_pure ?_
 refine bm_if_false rfl ?_
 refine wpAny_bind (wpAny_holding (wpAny_pyIter_list hl ?_))
 refine wpAny_bind (wpAny_holding (qIx (items:=us.toArray) hlt us.length 0 _ _ (y13 _ (Heap.get?_push_size _ rfl) rfl rfl) (hl.push _) (by simp) λh₁ hit₁ hs₁=>?_))
 have hall:List.take us.length (List.drop 0 us.toArray.toList)=us:=by simp
 rw[hall,if_neg (by simp)]
 have ht₁:h₁.IsList l us.toArray:=(hl.push _).extBut hs₁.extBut hlt
 refine wpAny_bind (wpAny_holding (wpAny_pyNext_list_end (S.ok.hh hb) hit₁ ht₁ (by simp) λh₂ he₂=>?_))
 refine wpAny_pure ?_
 have k:Le s.heap h₂:=λb o e=>have hb:b≠s.heap.objs.size:=Nat.ne_of_lt (Heap.lt_size e);he₂ b o hb (hs₁.extBut b o hb (Heap.get?_push_of_some _ e))
 have S':=S.heap (S.rel.ext k)
 exact wpAny_mono (h.go g R own _ _ S' d1) (λ_ _ x=>x) λ_ _ x=>x.elim
def SwapP.Ar(Z:Prop)(x y:Str)(ρ:Ro)(N:Ro→Sg→Prop)(d:D)(τ:Sg):Prop:=∀(a b:D) (e:d= .tup [a,b]) (n:N (rset (rset ρ y b) x a) τ),Z
@[irreducible] def SwapP (x y:Str) (ρ:Ro) (N:Ro→Sg→Prop) (d:D) (τ:Sg):Prop:=∀Z,SwapP.Ar Z x y ρ N d τ→Z
theorem SwapP.mk{y:Str}:SwapP.Ar (SwapP x y ρ N d τ) x y ρ N d τ:=by delta SwapP;exact λa b e n _ k=>k a b e n
theorem SwapP.el{y:Str}(h:SwapP x y ρ N d τ):SwapP.Ar Z x y ρ N d τ→Z:=by delta SwapP at h;exact h Z
theorem qFF{ts:List Expr}{tp:Pos}{y:Str}{X:Ro→Addr→Sg→Prop}(hb:c.bare=true)(hx:nm c x)(hy:nm c y)
  (h:WE c e ρ σ (SwapP x y ρ N) (X ρ))(hs:autoParam (pure false=swapsWithSole [.Tuple ts k tp] e p.line c.env) auR)
  (hw:autoParam (swappedStores [.Tuple ts k tp] e c.env=pure (some [x,y])) auR):ST c (.Assign [.Tuple ts k tp] e p) ρ σ N Rt X:=.mk λg R own s S=>by
 refine Assign_Tuple_swapped (names:=[x,y]) ?_ hs.symm hw
 refine wpAny_mono (h.go g R own s S) (λv s1 pe=>?_) (λ_ _ x=>x.toS)
 refine pe.el λg1 d σ1 l1 S1 dv q0=>q0.el λa b ed q=>?_
 subst ed
 refine dv.on λt us ht d1=>?_
 have ht:=ht.keeps S1.rel.keep
 obtain⟨v1,v2,e1,dx,dy⟩:=d1.two
 subst e1
 have e2: [x,y].length= [v1,v2].toArray.size:=rfl
 rw[e2]
 refine PySem.wpAny_unpackItems_tuple (S.ok.hh hb) ht λh' hx'=>?_
 have k:Le s1.heap h':=λb o e=>hx' b o (Nat.ne_of_lt (Heap.lt_size e)) e
 have S2:=S1.heap (S1.rel.ext k)
 have e3:([x,y]:List Str).reverse.map (λn=>bindName c.env n)= [bindName c.env y,bindName c.env x]:=rfl
 have e4: [v1,v2].toArray.toList.reverse= [v2,v1]:=rfl
 rw[e3,e4]
 refine wpAny_assignInOrder_more (wpAny_bindName (qAu S2 hy dy λown3 s3 S3=>?_))
 refine wpAny_assignInOrder_more (wpAny_bindName (qAu S3 hx dx λown4 s4 S4=>?_))
 exact wpAny_assignInOrder_none (.mk g1 own4 _ _ l1 S4 q)
end
section
variable {es:List D}{ys:List Str}
theorem qHS(h:∀a,σ a=none→Q (.obj a) (σ.set a (.dint []))):WE c (.Dict [] [] p) ρ σ Q X:=.mk λg R own s S=>
 wpAny_Dict_empty (by
  obtain⟨n,S2⟩:=S.newMO (o:= {cls:=.type "dict",data:=.dict #[]}) (mo:=.dint []) (y12 [] (Heap.DictOf.new _) .nil) rfl
  exact(.mk g _ _ (Le.refl g) S2 (.obj _) (h _ n)))
theorem C_join(hz:(ys.map (·.length)).sum+ys.length * x.length≤16777216)(q:Q (.str (Txt.join x ys)) σ):OC c (.blt "str.join") [.str x,.lst (ys.map .str)] ρ σ Q X:=.mk λg R own s vf vs S dv dvs=>by
 refine dv.on λ_=>?_;obtain⟨v1,v2,rfl,d1,d2⟩:=dvs.two;refine d1.on λ_=>?_
 refine d2.on λl us hl d2=>?_
 exact join_list (hl.at (S.rel.keep l)) (qDC d2) hz λ_ _=>S.val (.str _ _) q
theorem C_joinO(h:σ a=some (.list (ys.map .str)))(hz:(ys.map (·.length)).sum+ys.length * x.length≤16777216)(q:Q (.str (Txt.join x ys)) σ):OC c (.blt "str.join") [.str x,.obj a] ρ σ Q X:=.mk λg R own s vf vs S dv dvs=>by
 refine dv.on λ_=>?_;obtain⟨v1,v2,rfl,d1,d2⟩:=dvs.two;refine d1.on λ_=>?_;refine d2.on λ_=>?_
 obtain⟨us,n,h2,d2⟩:=S.rel.rep a _ h
 exact join_list (items:=us) (y13 _ h2 rfl ⟨_,rfl⟩) (qDC d2) hz λ_ _=>S.val (.str _ _) q
theorem DVs.bool{bs:List Bool}{us:List Value}(d:DVs g (bs.map .bool) us):us=bs.map .bool:=by
 induction bs generalizing us with
 |nil=>exact d.end rfl
 |cons b bs ih=>exact d.on λv ws x r=>x.on λ_=>by rw[ih r];rfl
theorem C_all{bs:List Bool}(hb:c.bare=true)(q:Q (.bool (bs.all id)) σ):OC c (.blt "all") [.lst (bs.map .bool)] ρ σ Q X:=.mk λg R own s vf vs S dv dvs=>by
 refine dv.on λ_=>?_;obtain⟨v1,rfl,d1⟩:=dvs.one
 refine d1.on λl us hl d1=>?_
 have hl:=hl.at (S.rel.keep l)
 have hlt:l < s.heap.objs.size:=by obtain⟨_,e,_⟩:=hl;exact Heap.lt_size e
 have eu:=d1.bool
 refine call_all_walk (wpAny_pyIter_list hl ?_)
 refine(y75 s.heap.objs.size [s.heap.objs.size,l] [s.heap.objs.size] us.toArray.size _ _ (λi=>(bs[i]?).getD true) rfl (Walks.list (A:=c.A.in1) (S.ok.hh hb) _ l (Nat.ne_of_lt hlt) us.toArray)
  ⟨(y13 _ (Heap.get?_push_size _ rfl) rfl rfl),hl.push _⟩ (λi v s' Q' E' hP hQ=>?_) (λh' tk hk=>?_))
 ·rw[eu]at hP
  replace hP:(bs.map Value.bool)[i]? =some v:=by simpa using hP
  rw[List.getElem?_map]at hP
  obtain⟨b,e,rfl⟩:=Option.map_eq_some_iff.1 hP
  simp only[e,Option.getD_some]at hQ
  exact wpAny_truthy_bool hQ
 ·have e:((List.range us.toArray.size).all λi=>(bs[i]?).getD true)=bs.all id:=by
   rw[List.size_toArray,eu,List.length_map,Bool.eq_iff_iff]
   simp only[List.all_eq_true,List.mem_range,id]
   constructor
   ·intro h b hb
    obtain⟨i,hi,rfl⟩:=List.mem_iff_getElem.1 hb
    simpa [hi] using h i hi
   ·intro h i hi
    simpa [hi] using h _ (List.getElem_mem hi)
  rw[e]
  have k:Le s.heap h':=λb o q=>hk b o (by simpa using Nat.ne_of_lt (Heap.lt_size q)) (Heap.get?_push_of_some _ q)
  exact(.mk g _ σ (Le.refl g) ((S.heap (S.rel.ext k)).toks _) (.bool _) q)
end
section
theorem WE_Dict1{k v:Expr}(h:∀a,σ a=none→WE c k ρ (σ.set a (.dstr [])) (λd τ=>WE c v ρ τ (λe υ=>∃x,d= .str x∧υ a=some (.dstr [])∧Q (.obj a) (υ.set a (.dstr [(x,e)]))) X) X):
  WE c (.Dict [some k] [v] p) ρ σ Q X:=.mk λg R own s S=>by
 refine wpAny_Dict_walk (knd:=strKind pw c.w) rfl rfl (by simp) (by simp) ?_
 obtain⟨n,S1⟩:=S.newMO (o:= {cls:=.type "dict",data:=.dict #[]}) (mo:=.dstr []) (y12 [] (Heap.DictOf.new _) .nil) rfl
 refine pairTrees_cons_walk ((h _ n).use S1 (λg1 d τ va s1 l1 S1 da q=>q.use S1 (λg2 e υ ve s2 l2 S2 de q2=>?_) λ_ _ p=>p.le l1) λ_ _ x=>x)
 obtain⟨x,rfl,ha,q⟩:=q2
 refine pairTrees_nil_walk ?_
 refine da.on λt=>?_
 obtain⟨kvs,hd,pr⟩:=S2.rel.rep _ _ ha
 cases pr
 refine(y13 [(x,ve)] (y03 (qHf x t) rfl trivial) hd (λh' hd' hs=>?_))
 have S3:=S2.turn (mo':=.dstr [(x,e)]) (h':=h') (tk:=s2.toks+1) ha rfl rfl (y12 _ hd' (.cons de .nil)) hs
 exact(.mk g2 _ _ (l1.trans l2) S3 (.obj _) q)
noncomputable def qAB(ns:List Int):List (Int × D):=ns.foldl (λacc n=>pset acc n (.bool true)) []
theorem qHh{kvs:List (Int × Value)}(h:StoredAll (λv k=>∃t,v=Value.int k t) (λ_ y=>y= .bool true) vs kvs):∀{ns:List Int},DVs g (ns.map .int) vs→Prs g (qAB ns) kvs:=by
 induction h with
 |nil=>intro ns d;cases ns with
  |nil=>exact .nil
  |cons n ns=>exact nomatch d.1
 | @snoc l kvs v k y _ hk hy ih=>
  intro ns d
  rcases List.eq_nil_or_concat ns with rfl| ⟨ms,m,rfl⟩
  ·have:=d.length;simp at this
  ·have e:ms.length=l.length:=by have:=d.length;simp at this;omega
   have hl:DVs g (ms.map .int) l:=by
    have:=d.take ms.length
    rw[List.concat_eq_append,List.map_append,List.take_left' (by simp),e,List.take_left' rfl]at this
    exact this
   obtain⟨v',e1,dv⟩:=d.get (k:=ms.length) (d:=.int m) (by simp)
   rw[e,List.getElem?_append_right (Nat.le_refl _),Nat.sub_self]at e1
   injection e1 with e1
   subst e1 hy
   cases dv with|int _ t=>?_
   obtain⟨u,ek⟩:=hk
   injection ek with ek _
   subst ek
   unfold qAB
   rw[List.concat_eq_append,List.foldl_append]
   exact(ih hl).set (.bool true)
theorem qBG{K V:Type} [DecidableEq K](es:List (K × V))(k:K)(v:V):(pset es k v).length≤es.length+1:=by unfold pset;split <;> simp
theorem qJQ{it:Expr}{px py:Pos}{pt:Pos}{kk:Nat}{scope:Scope}(hb:c.bare=true)(hclos:closureFor scope c.env=pure cl)(hcell:∀y∈scope.names,y.2≠.cell)(hkind:scope.kind= .function)
  (hnames:∀y∈scope.names,y.2= .local→scope.names.lookup y.1=some .local)(hx:scope.names.lookup x=some .local)(hdbg:(x==("__debug__":Str))=false)
  (h:WE c it ρ σ (λd τ=>∃ns,d= .tup (ns.map .int)∧ns.length≤sizeLine∧∀a,τ a=none→Q (.obj a) (τ.set a (.dint (qAB ns)))) X)(hs:autoParam (∀x,pure x=foldedSetIterable it c.env x) auI):
  WE c (.DictComp (.Name x py) (.Constant (.bool true) kk pt) [⟨.Name x px,it,[],0⟩] scope pos) ρ σ Q X:=.mk λg R own s S=>by
 refine wpAny_DictComp_free (intKind pw c.w) (λ_=>true) (λv k=>∃t,v=Value.int k t) (λ_ y=>y= .bool true) hclos hcell hkind hnames hx (h.use S (λg1 d τ v s1 l1 S1 dv o1'=>x1_3 o1' λns ed hz q=>?_) λ_ _ x=>x) (λx=>(hs x).symm)
 subst ed
 refine dv.on λt us ht d1=>?_
 have ht:=ht.keeps S1.rel.keep
 have hlt:t < s1.heap.objs.size:=ht.lt
 refine PySem.wpAny_pyIter_tuple ht ?_
 refine(y67 s1.heap.objs.size [s1.heap.objs.size,t] [s1.heap.objs.size] us.toArray.size _ _ rfl (Walks.tuple (S.ok.hh hb) _ t (Nat.ne_of_lt hlt) us.toArray) (by rw[List.size_toArray,d1.length,List.length_map];exact hz)
  ⟨(y13 _ (Heap.get?_push_size _ rfl) rfl rfl),ht.push _⟩ ?_ ⟨?_,?_,?_⟩ ?_)
 ·intro b hb
  rw[Heap.size_push]
  rcases List.mem_cons.1 hb with rfl|hb
  ·exact Nat.lt_succ_self _
  ·rw[List.mem_singleton.1 hb];exact Nat.lt_succ_of_lt hlt
 ·intro C i v s3 m3 E' _ _ _ _
  exact wpAny_pure ⟨rfl,s3.heap,s3.toks,rfl,λ_ _ e=>e⟩
 ·intro C i v s3 m3 E' hP _ hns hm _
  have e1:us[i]? =some v:=by simpa using hP
  have:∃n t,v= .int n t:=by
   have hi:i < us.length:=(List.getElem?_eq_some_iff.1 e1).1
   have hi':i < ns.length:=by rw[d1.length,List.length_map]at hi;exact hi
   obtain⟨v',e2,dv⟩:=d1.get (k:=i) (d:=.int ns[i]) (by simp[hi'])
   rw[e1]at e2;injection e2 with e2;subst e2
   exact dv.on λt=>(y21 _ _ rfl)
  obtain⟨n,t,rfl⟩:=this
  exact wpAny_Name (wpAny_loadName_local hkind (lookup_relabel_local hx) hns hm ⟨(y12 n (intIs n t) ⟨t,rfl⟩),s3.heap,s3.toks,rfl,λ_ _ e=>e⟩) hdbg
 ·intro C i v s3 m3 E' _ _ _ _ _
  exact wpAny_pure ⟨rfl,s3.heap,s3.toks,rfl,λ_ _ e=>e⟩
 ·intro D h' tk kvs vs hD hdict hlen hvs hst hk
  have k:Le s1.heap h':=λb o e=>hk b o (by simpa using Nat.ne_of_lt (Heap.lt_size e)) (Heap.get?_push_of_some _ e)
  have ev:vs=us:=by
   refine List.ext_getElem? λj=>?_
   cases e:vs[j]? with
   |none=>rw[List.getElem?_eq_none_iff]at e;rw[List.getElem?_eq_none (by rw[hlen]at e;simpa using e)]
   |some v=>have:=hvs j v e;simpa using this.symm
  subst ev
  have hD1:s1.heap.get? D=none:=by
   cases e:s1.heap.get? D with
   |none=>rfl
   |some o=>rw[Heap.get?_push_of_some _ e]at hD;cases hD
  rw[List.filter_eq_self.2 (λ_ _=>rfl)]at hst
  have S2:=S1.heap (S1.rel.ext k)
  obtain⟨t1,t2,t3⟩:=S1.rel.taken hD1
  have hn:τ D=none:=by
   cases e:τ D with
   |none=>rfl
   |some o=>exact absurd (MO.self D o) (t3 D o e)
  refine(.mk g1 _ _ l1 (St.toks (s:= {s1 with heap:=h'}) ⟨S2.ok,S2.rel.track (o:=.dint (qAB ns)) rfl t1 ⟨t2,t3⟩ (y12 _ hdict (qHh hst d1)),S2.wd,S2.gens,S2.os,S2.locs,S2.frs⟩ tk) (.obj _) (q D hn))
end
noncomputable def Pair(a b:Value):Obj:= {cls:=.type "tuple",data:=.seq #[a,b]}
noncomputable def ZipO(TI TO:Addr)(f0:Value):Obj:= {cls:=.type "zip",dict:=none,data:=.fields #[f0,.bool false,.bool false,.ref TI,.ref TO],slots:=#[]}
section
variable {P P':Pv}
theorem St.dropL(hp:∀p∈P,noCD p.2)(S:St c g (P++R) ρ σ own s):St c g R ρ σ own s:=by
 have sl:(own++R).Sublist (own++(P++R)):=(List.Sublist.refl own).append (List.sublist_append_right P R)
 have mem:∀q∈own++(P++R),¬noCD q.2→q∈own++R:=λq hq n=>by
  rcases List.mem_append.mp hq with h|h
  ·exact List.mem_append_left _ h
  ·rcases List.mem_append.mp h with h|h
   ·exact absurd (hp q h) n
   ·exact List.mem_append_right _ h
 exact S.to (S.rel.sublist sl) λhq n=>mem _ hq n
theorem PX.dropL(hp:∀p∈P,noCD p.2){ev:Value}(h:PX c g (P++R) ρ own X ev s):PX c g R ρ own X ev s:=by
 obtain⟨e,C,g',σ',rfl,l,S,F,x⟩:=h
 exact(.mk e C g' σ' rfl l (S.dropL hp) (F.sublist ((List.Sublist.refl own).append (List.sublist_append_right P R))) x)
theorem St.turnL{tk:Nat}(S:St c g (P++R) ρ σ own s)(hp:∀p∈P,noCD p.2)(keys:P'.map (·.1)=P.map (·.1))(hP:∀p∈P',h'.get? p.1=some p.2)
  (k:∀b ob,b∉P.map (·.1)→s.heap.get? b=some ob→h'.get? b=some ob):St c g (P'++R) ρ σ own {s with heap:=h',toks:=tk}:=by
 have ek:(own++(P'++R)).map (·.1)=(own++(P++R)).map (·.1):=by simp only[List.map_append,keys]
 have nd:=S.rel.nodup
 have pm:(own++(P++R)).Perm (P++(own++R)):=by rw[←List.append_assoc,←List.append_assoc];exact List.perm_append_comm.append_right R
 have nd2:=(pm.map (·.1)).nodup_iff.mp nd
 rw[List.map_append,List.nodup_append]at nd2
 have off:∀q∈own++R,q.1∉P.map (·.1):=λq hq m=>nd2.2.2 _ m _ (List.mem_map_of_mem (f:=(·.1)) hq) rfl
 have sub:∀q∈own++R,q∈own++(P++R):=λq hq=>by
  rcases List.mem_append.mp hq with h|h
  ·exact List.mem_append_left _ h
  ·exact List.mem_append_right _ (List.mem_append_right _ h)
 have sub':∀q∈own++R,q∈own++(P'++R):=λq hq=>by
  rcases List.mem_append.mp hq with h|h
  ·exact List.mem_append_left _ h
  ·exact List.mem_append_right _ (List.mem_append_right _ h)
 have mem:∀q∈own++(P++R),¬noCD q.2→q∈own++(P'++R):=λq hq n=>by
  rcases List.mem_append.mp hq with h|h
  ·exact List.mem_append_left _ h
  ·rcases List.mem_append.mp h with h|h
   ·exact absurd (hp q h) n
   ·exact List.mem_append_right _ (List.mem_append_right _ h)
 have rel:Rel c.w g (own++(P'++R)) σ h':=by
  refine⟨λb ob e=>k b ob (λm=>?_) (S.rel.keep b ob e),λp hq=>?_,by rw[ek];exact nd,λa o e=>(S.rel.rep a o e).heap λb hb ob q=>k b ob (λm=>?_) q,λa o e b hb=>by rw[ek];exact S.rel.off a o e b hb,S.rel.apart⟩
  ·obtain⟨p,hp',rfl⟩:=List.mem_map.mp m
   have:=(S.rel.priv p (List.mem_append_right _ (List.mem_append_left _ hp'))).1
   rw[this]at e;cases e
  ·rcases List.mem_append.mp hq with h|h
   ·have m:=List.mem_append_left R h
    have y:=S.rel.priv p (sub p m)
    exact⟨y.1,y.2.le λob e=>k _ _ (off p m) e⟩
   ·rcases List.mem_append.mp h with h|h
    ·have m:p.1∈P.map (·.1):=keys▸List.mem_map_of_mem (f:=(·.1)) h
     obtain⟨q,hq,e⟩:=List.mem_map.mp m
     exact⟨e▸(S.rel.priv q (List.mem_append_right _ (List.mem_append_left _ hq))).1,.inl (hP p h)⟩
    ·have m:=List.mem_append_right own h
     have y:=S.rel.priv p (sub p m)
     exact⟨y.1,y.2.le λob e=>k _ _ (off p m) e⟩
  ·refine(S.rel.off a o e b hb).2 ?_
   rw[List.map_append,List.map_append]
   exact List.mem_append_right _ (List.mem_append_left _ m)
 exact S.to rel λhq n=>mem _ hq n
theorem St.endL{tk:Nat}(S:St c g (P++R) ρ σ own s)(hp:∀p∈P,noCD p.2)(k:∀b ob,b∉P.map (·.1)→s.heap.get? b=some ob→h'.get? b=some ob):St c g R ρ σ own {s with heap:=h',toks:=tk}:=by
 have nd:=S.rel.nodup
 have pm:(own++(P++R)).Perm (P++(own++R)):=by rw[←List.append_assoc,←List.append_assoc];exact List.perm_append_comm.append_right R
 have nd2:=(pm.map (·.1)).nodup_iff.mp nd
 rw[List.map_append,List.nodup_append]at nd2
 have fr:∀b,b∈P.map (·.1)→g.get? b=none∧Free (own++R) σ b:=λb m=>by
  obtain⟨p,hp',rfl⟩:=List.mem_map.mp m
  have hm:p∈own++(P++R):=List.mem_append_right _ (List.mem_append_left _ hp')
  exact⟨(S.rel.priv _ hm).1,λq=>nd2.2.2 _ m _ q rfl,λa ob e hb=>(S.rel.off a ob e _ hb).2 (List.mem_map_of_mem (f:=(·.1)) hm)⟩
 have S':=S.dropL hp
 exact St.toks (s:= {s with heap:=h'}) (S'.heap (S'.rel.aside (f:=λb=>b∈P.map (·.1)) fr λb ob hb q=>k b ob hb q)) tk
end
structure Nx(w:World)(A:Around)(i:Addr)(ds:List D)(Z:Nat→Heap→Obj→Prop):Prop where
 mono:∀k g g' o,Le g g'→Z k g o→Z k g' o
 flat:∀k g o,Z k g o→∃vs,o.data= .fields vs
 item:∀k g (s:Shared) o d (Q:Value→Shared→Prop) (E:Value→Shared→Prop),Le g s.heap→s.heap.get? i=some o→Z k g o→g.get? i=none→ds[k]? =some d→
  (∀v h' tk o',DV g d v→Z (k+1) g o'→h'.get? i=some o'→Heap.SameBut i s.heap h'→Q v {s with heap:=h',toks:=tk})→wpAny (model pw w) A (Builtin.SmallTypes.nextOf (.ref i)) Q E s
 fin:∀k g (s:Shared) o (Q:Value→Shared→Prop) (E:Value→Shared→Prop),Le g s.heap→s.heap.get? i=some o→Z k g o→g.get? i=none→ds[k]? =none→
  (∀h' e,Heap.ExtBut i s.heap h'→(∃o,h'.get? e=some o∧o.cls= .type "StopIteration")→E (.ref e) {s with heap:=h'})→wpAny (model pw w) A (Builtin.SmallTypes.nextOf (.ref i)) Q E s
structure ZAp(z TI TO i1 i2:Addr):Prop where
 TIz:TI≠z
 TOz:TO≠z
 i1z:i1≠z
 i2z:i2≠z
 TITO:TI≠TO
 TIi1:TI≠i1
 TIi2:TI≠i2
 TOi1:TO≠i1
 TOi2:TO≠i2
 i12:i1≠i2
section
variable {es:List D}{Z1 Z2:Nat→Heap→Obj→Prop}{z TI TO i1 i2:Addr}{o1 o2:Obj}{a b:Value}
theorem zip_any(N1:Nx w A i1 ds Z1)(N2:Nx w A i2 es Z2)(D:ZAp z TI TO i1 i2){Q:Value→Shared→Prop}(lg:Le g s.heap)(gz:g.get? z=none)(gT:g.get? TO=none)(g1:g.get? i1=none)(g2:g.get? i2=none)
  (hz:IsZip s.heap z TI TO .none)(hTI:IsPair s.heap TI (.ref i1) (.ref i2))(hTO:IsPair s.heap TO a b)(h1:s.heap.get? i1=some o1)(h2:s.heap.get? i2=some o2)(z1:Z1 k g o1)(z2:Z2 k g o2)
  (hQ:∀d e h' tk x y o1' o2',ds[k]? =some d→es[k]? =some e→DV g d x→DV g e y→IsZip h' z TI TO (rawInt s.heap.objs.size)→IsPair h' TO x y→h'.get? i1=some o1'→h'.get? i2=some o2'→Z1 (k+1) g o1'→Z2 (k+1) g o2'→IsPair h' s.heap.objs.size x y→h'.objs.size=s.heap.objs.size+1→
   (∀c o,c≠z→c≠TO→c≠i1→c≠i2→s.heap.get? c=some o→h'.get? c=some o)→Q (.ref s.heap.objs.size) {s with heap:=h',toks:=tk})
  (hE:∀h' e tk,ds[k]? =none∨es[k]? =none→(∀c o,c≠z→c≠TO→c≠i1→c≠i2→s.heap.get? c=some o→h'.get? c=some o)→(∃o,h'.get? e=some o∧o.cls= .type "StopIteration")→E (.ref e) {s with heap:=h',toks:=tk}):
  wpAny (model pw w) A (Builtin.«zip.__next__» ⟨[.ref z],[]⟩) (λfin s'=>∃v,fin= .done (.ret v)∧Q v s') E s:=by
 have ne:∀{x:Addr} {bb:Addr} {o:Obj},g.get? x=none→g.get? bb=some o→bb≠x:=λgx e q=>by rw[q,gx]at e;cases e
 show wpAny _ _ (field (.ref z) 2 >>=_) _ _ _
 refine wpAny_bind (wpAny_field hz rfl (x:=.bool false) rfl ?_)
 show wpAny _ _ (field (.ref z) 3 >>=_) _ _ _
 refine wpAny_bind (wpAny_field hz rfl (x:=.ref TI) rfl ?_)
 refine wpAny_bind (wpAny_seqItems hTI rfl ?_)
 refine wpAny_bind ?_
 unfold Builtin.SmallTypes.ownedTupleIsFree
 refine wpAny_bind (wpAny_field hz rfl (x:=.none) rfl (wpAny_pure ?_))
 refine bm_if_true rfl ?_
 refine wpAny_bind (wpAny_rule ?_)
 refine wpAny_bind (wpAny_field hz rfl (x:=.ref TO) rfl ?_)
 refine wpAny_bind (wpAny_setField_rec hz (by simp) λh₁ hz₁ hs₁=>?_)
 replace hz₁:IsZip h₁ z TI TO .ellipsis:=hz₁
 refine wpAny_bind ?_
 have lg1:Le g h₁:=λb o e=>hs₁.extBut _ _ (ne gz e) (lg _ _ e)
 refine wpAny_bind (wpAny_bind (wpAny_onRaise ?_))
 cases hx:ds[k]? with
 |none=>
  refine wpAny_bind (N1.fin k g _ o1 _ _ lg1 (hs₁.extBut _ _ D.i1z h1) z1 g1 hx λh₂ e hs₂ he=>?_)
  obtain⟨oe,hoe,hce⟩:=he
  have hz₂:IsZip h₂ z TI TO .ellipsis:=hs₂ _ _ D.i1z.symm hz₁
  have hez:e≠z:=λx=>by subst x;rw[hz₂]at hoe;cases hoe;simp at hce
  refine wpAny_setField_rec hz₂ (by simp) λh₃ _ hs₃=>hE h₃ e _ (.inl hx) (λc o c1 _ c3 _ x=>hs₃.extBut _ _ c1 (hs₂ _ _ c3 (hs₁.extBut _ _ c1 x))) (y12 oe (hs₃.extBut _ _ hez hoe) hce)
 |some d=>
  refine wpAny_bind (N1.item k g _ o1 d _ _ lg1 (hs₁.extBut _ _ D.i1z h1) z1 g1 hx λx h₂ t₂ o1' dx z1' e1 hs₂=>wpAny_pure ?_)
  have lg2:Le g h₂:=λb o e=>hs₂.extBut _ _ (ne g1 e) (lg1 _ _ e)
  have hTO₂:IsPair h₂ TO a b:=hs₂.extBut _ _ D.TOi1 (hs₁.extBut _ _ D.TOz hTO)
  refine wpAny_bind (wpAny_seqItems hTO₂ rfl ?_)
  refine wpAny_bind (wpAny_updateSeq_pair hTO₂ λh₃ hTO₃ hs₃=>?_)
  replace hTO₃:IsPair h₃ TO x b:=hTO₃
  refine wpAny_bind (wpAny_letGo (wpAny_pure ?_))
  have lg3:Le g h₃:=λb o e=>hs₃.extBut _ _ (ne gT e) (lg2 _ _ e)
  refine wpAny_bind (wpAny_bind (wpAny_onRaise ?_))
  cases hy:es[k]? with
  |none=>
   refine wpAny_bind (N2.fin k g _ o2 _ _ lg3 (hs₃.extBut _ _ D.TOi2.symm (hs₂.extBut _ _ D.i12.symm (hs₁.extBut _ _ D.i2z h2))) z2 g2 hy λh₄ e hs₄ he=>?_)
   obtain⟨oe,hoe,hce⟩:=he
   have hz₄:IsZip h₄ z TI TO .ellipsis:=hs₄ _ _ D.i2z.symm (hs₃.extBut _ _ D.TOz.symm (hs₂.extBut _ _ D.i1z.symm hz₁))
   have hez:e≠z:=λx=>by subst x;rw[hz₄]at hoe;cases hoe;simp at hce
   refine wpAny_setField_rec hz₄ (by simp) λh₅ _ hs₅=>hE h₅ e _ (.inr hy) (λc o c1 c2 c3 c4 x=>hs₅.extBut _ _ c1 (hs₄ _ _ c4 (hs₃.extBut _ _ c2 (hs₂.extBut _ _ c3 (hs₁.extBut _ _ c1 x))))) (y12 oe (hs₅.extBut _ _ hez hoe) hce)
  |some e=>
   refine wpAny_bind (N2.item k g _ o2 e _ _ lg3 (hs₃.extBut _ _ D.TOi2.symm (hs₂.extBut _ _ D.i12.symm (hs₁.extBut _ _ D.i2z h2))) z2 g2 hy λy h₄ t₄ o2' dy z2' e2 hs₄=>wpAny_pure ?_)
   have hTO₄:IsPair h₄ TO x b:=hs₄.extBut _ _ D.TOi2 hTO₃
   refine wpAny_bind (wpAny_seqItems hTO₄ rfl ?_)
   refine wpAny_bind (wpAny_updateSeq_pair hTO₄ λh₅ hTO₅ hs₅=>?_)
   replace hTO₅:IsPair h₅ TO x y:=hTO₅
   refine wpAny_bind (wpAny_letGo (wpAny_pure (wpAny_pure ?_)))
   refine wpAny_bind (wpAny_seqItems hTO₅ rfl ?_)
   refine wpAny_bind (wpAny_newTuple ?_)
   have hsz:h₅.objs.size=s.heap.objs.size:=by rw[hs₅.1,hs₄.1,hs₃.1,hs₂.1,hs₁.1]
   have hz₅:IsZip h₅ z TI TO .ellipsis:=hs₅.extBut _ _ D.TOz.symm (hs₄.extBut _ _ D.i2z.symm (hs₃.extBut _ _ D.TOz.symm (hs₂.extBut _ _ D.i1z.symm hz₁)))
   have hk₅:∀c o,c≠z→c≠TO→c≠i1→c≠i2→s.heap.get? c=some o→h₅.get? c=some o:=λc o c1 c2 c3 c4 e=>
    hs₅.extBut _ _ c2 (hs₄.extBut _ _ c4 (hs₃.extBut _ _ c2 (hs₂.extBut _ _ c3 (hs₁.extBut _ _ c1 e))))
   have h1₅:h₅.get? i1=some o1':=hs₅.extBut _ _ D.TOi1.symm (hs₄.extBut _ _ D.i12 (hs₃.extBut _ _ D.TOi1.symm e1))
   have h2₅:h₅.get? i2=some o2':=hs₅.extBut _ _ D.TOi2.symm e2
   have hzlt:z < h₅.objs.size:=Heap.lt_size hz₅
   refine wpAny_bind ?_
   have hz₆:IsZip (h₅.push {cls:=.type "tuple",data:=.seq #[x,y]}) z TI TO .ellipsis:=Heap.get?_push_of_some _ hz₅
   refine wpAny_bind (wpAny_setField_rec hz₆ (by simp) λh₇ hz₇ hs₇=>?_)
   replace hz₇:IsZip h₇ z TI TO (rawInt h₅.objs.size):=hz₇
   refine wpAny_setField_rec hz₇ (by simp) λh₈ hz₈ hs₈=>?_
   replace hz₈:IsZip h₈ z TI TO (rawInt h₅.objs.size):=hz₈
   have up:∀c o,c≠z→h₅.get? c=some o→h₈.get? c=some o:=λc o c1 e=>hs₈.extBut _ _ c1 (hs₇.extBut _ _ c1 (Heap.get?_push_of_some _ e))
   have hT₈:IsPair h₈ h₅.objs.size x y:=hs₈.extBut _ _ (Nat.ne_of_gt hzlt) (hs₇.extBut _ _ (Nat.ne_of_gt hzlt) (Heap.get?_push_size _ rfl))
   have hz8:h₈.objs.size=h₅.objs.size+1:=by rw[hs₈.1,hs₇.1,Heap.size_push]
   rw[hsz]at hz₈ hT₈ hz8
   refine wpAny_pure (y12 _ rfl ?_)
   show Q (.ref h₅.objs.size) _
   rw[hsz]
   exact hQ d e h₈ t₄ x y o1' o2' hx hy dx dy hz₈ (up _ _ D.TOz hTO₅) (up _ _ D.i1z h1₅) (up _ _ D.i2z h2₅) z1' z2' hT₈ hz8 λc o c1 c2 c3 c4 e=>up c o c1 (hk₅ c o c1 c2 c3 c4 e)
theorem next_any(N1:Nx w A.in1 i1 ds Z1)(N2:Nx w A.in1 i2 es Z2)(D:ZAp z TI TO i1 i2){Q:Option Value→Shared→Prop}(lg:Le g s.heap)(gz:g.get? z=none)(gT:g.get? TO=none)(g1:g.get? i1=none)(g2:g.get? i2=none)
  (hz:IsZip s.heap z TI TO .none)(hTI:IsPair s.heap TI (.ref i1) (.ref i2))(hTO:IsPair s.heap TO a b)(h1:s.heap.get? i1=some o1)(h2:s.heap.get? i2=some o2)(z1:Z1 k g o1)(z2:Z2 k g o2)
  (hQ:∀d e h' tk x y o1' o2',ds[k]? =some d→es[k]? =some e→DV g d x→DV g e y→IsZip h' z TI TO (rawInt s.heap.objs.size)→IsPair h' TO x y→h'.get? i1=some o1'→h'.get? i2=some o2'→Z1 (k+1) g o1'→Z2 (k+1) g o2'→IsPair h' s.heap.objs.size x y→h'.objs.size=s.heap.objs.size+1→
   (∀c o,c≠z→c≠TO→c≠i1→c≠i2→s.heap.get? c=some o→h'.get? c=some o)→Q (some (.ref s.heap.objs.size)) {s with heap:=h',toks:=tk})
  (hE:∀h' tk,ds[k]? =none∨es[k]? =none→(∀c o,c≠z→c≠TO→c≠i1→c≠i2→s.heap.get? c=some o→h'.get? c=some o)→Q none {s with heap:=h',toks:=tk}):wpAny (model pw w) A (pyNext (.ref z)) Q E s:=by
 have hT:s.TypeIs (.ref z) "zip":=(y12 _ hz rfl)
 unfold pyNext
 refine wpAny_bind (wpAny_attempt (wpAny_callSpecial?_slot (name:="__next__") hT PySem.F.slot_zip_next
  (wpAny_call_entry PySem.F.slot_zip_next hT PySem.F.entry_zip_next
   (zip_any (A:=A.in1) N1 N2 D lg gz gT g1 g2 hz hTI hTO h1 h2 z1 z2 (λd e h' tk x y o1' o2' hx hy a1 a2 a3 a4 a5 a6 a7 a8 a9 a10 a11=>wpAny_pure (hQ d e h' tk x y o1' o2' hx hy a1 a2 a3 a4 a5 a6 a7 a8 a9 a10 a11)) λh' e tk hn hk he=>?_) (PySem.F.args_zip_next_1 _))))
 obtain⟨o,ho,hc⟩:=he
 refine wpAny_bind (wpAny_isInstance (T:="StopIteration") (b:=true) (y12 o ho hc) isSubtype_stop ?_)
 exact wpAny_pure (hE _ _ hn hk)
end
section
theorem qCd{it t:Addr}{i:Nat}{items:Array Value}{x:Value}{Q:Value→Shared→Prop}(hit:s.heap.IsTupleIter it t i)(ht:s.heap.IsTuple t items)(hx:items[i]? =some x)
  (hQ:∀h',h'.IsTupleIter it t (i+1)→Heap.SameBut it s.heap h'→Q x {s with heap:=h'}):wpAny (model pw w) A (Builtin.SmallTypes.nextOf (.ref it)) Q E s:=by
 obtain⟨o,ho,hc,hd⟩:=id hit
 obtain⟨ol,hol,_,nl,hdl⟩:=ht
 unfold Builtin.SmallTypes.nextOf
 refine wpAny_bind (wpAny_callSpecial?_slot (name:="__next__") hit.typeIs PySem.F.slot_tuple_iterator_next
  (wpAny_call_entry PySem.F.slot_tuple_iterator_next hit.typeIs PySem.F.entry_tuple_iterator_next ?_ (PySem.F.args_tuple_iterator_next_1 _)))
 show wpAny _ _ (field (.ref it) 0 >>=_) _ _ s
 refine wpAny_bind (wpAny_field ho hd (x:=.ref t) rfl ?_)
 show wpAny _ _ (if(Value.ref t==Value.none)=true then _ else _) _ _ s
 rw[if_neg (show ¬((Value.ref t==Value.none)=true) from Bool.false_ne_true)]
 show wpAny _ _ (field (.ref it) 1 >>=_) _ _ s
 refine wpAny_bind (wpAny_field ho hd (x:=.int i 0) rfl ?_)
 show wpAny _ _ (seqItems? (.ref t) >>=_) _ _ s
 refine wpAny_bind (wpAny_seqItems hol hdl ?_)
 simp only[Int.toNat_natCast,hx]
 refine wpAny_bind (wpAny_setField ho hd (by simp) (wpAny_pure (y12 x rfl (wpAny_pure (hQ _ ?_ (Heap.SameBut.update ..))))))
 exact(y13 _ (Heap.get?_update_self _ ho (Obj.isFreed_of_fields (Obj.data_mapFields hd _))) ((Obj.cls_mapFields ..).trans hc) (by
  rw[Obj.data_mapFields hd];simp[rawInt]))
theorem qD9{it t:Addr}{i:Nat}{items:Array Value}{Q:Value→Shared→Prop}(hh:A.handled=none)(hit:s.heap.IsTupleIter it t i)(ht:s.heap.IsTuple t items)(hx:items[i]? =none)
  (hE:∀h' e,Heap.ExtBut it s.heap h'→(∃o,h'.get? e=some o∧o.cls= .type "StopIteration")→E (.ref e) {s with heap:=h'}):wpAny (model pw w) A (Builtin.SmallTypes.nextOf (.ref it)) Q E s:=by
 obtain⟨o,ho,hc,hd⟩:=id hit
 obtain⟨ol,hol,_,nl,hdl⟩:=ht
 unfold Builtin.SmallTypes.nextOf
 refine wpAny_bind (wpAny_callSpecial?_slot (name:="__next__") hit.typeIs PySem.F.slot_tuple_iterator_next
  (wpAny_call_entry PySem.F.slot_tuple_iterator_next hit.typeIs PySem.F.entry_tuple_iterator_next ?_ (PySem.F.args_tuple_iterator_next_1 _)))
 show wpAny _ _ (field (.ref it) 0 >>=_) _ _ s
 refine wpAny_bind (wpAny_field ho hd (x:=.ref t) rfl ?_)
 show wpAny _ _ (if(Value.ref t==Value.none)=true then _ else _) _ _ s
 rw[if_neg (show ¬((Value.ref t==Value.none)=true) from Bool.false_ne_true)]
 show wpAny _ _ (field (.ref it) 1 >>=_) _ _ s
 refine wpAny_bind (wpAny_field ho hd (x:=.int i 0) rfl ?_)
 show wpAny _ _ (seqItems? (.ref t) >>=_) _ _ s
 refine wpAny_bind (wpAny_seqItems hol hdl ?_)
 simp only[Int.toNat_natCast,hx]
 refine wpAny_bind (wpAny_rule (wpAny_bind (wpAny_setField ho hd (by simp) ?_)))
 show wpAny _ _ (newExc (.type "StopIteration") [] >>=_) _ _ _
 refine wpAny_bind ?_
 simp only[newExc,newTuple]
 refine wpAny_bind (wpAny_newObj_type ?_ (by size_fits))
 refine wpAny_bind (m:=firstArgMember _ _) (wpAny_of_eq (a:=Value.none) (by first|rfl| (simp only[firstArgMember];rfl)) ?_)
 refine wpAny_newObj_type ?_ (by size_fits)
 unfold raiseNew
 refine wpAny_bind (wpAny_handled ?_)
 first|rw[show A.in1.handled=none from hh]|rw[hh]
 refine wpAny_bind (wpAny_pure (wpAny_throw ?_))
 exact hE _ _ (((Heap.SameBut.update ..).extBut.push _).push _) (y12 _ (Heap.get?_push_size _ rfl) rfl)
noncomputable abbrev itO (n:String) (v:Value) (k:Nat):Obj:= {cls:=.type n,data:=.fields #[v,.int k 0]}
def ZL(ds:List D)(k:Nat)(g:Heap)(o:Obj):Prop:=∃l us,o.cls= .type "list_iterator"∧o.data= .fields #[.ref l,.int k 0]∧g.IsList l us.toArray∧DVs g ds us
def ZT(ds:List D)(k:Nat)(g:Heap)(o:Obj):Prop:=∃l us,o.cls= .type "tuple_iterator"∧o.data= .fields #[.ref l,.int k 0]∧IsTup g l us.toArray∧DVs g ds us
def ZS(x:Str)(k:Nat)(g:Heap)(o:Obj):Prop:=∃t,(o.cls= .type "str_ascii_iterator"∨o.cls= .type "str_iterator")∧o.data= .fields #[.str x t,.int k 0]
variable {i:Addr}
theorem Nx.list(hh:A.handled=none):Nx w A i ds (ZL ds) where
 mono:=λk g g' o l o1'=>x2_4 o1' λa us h1 h2 h3 h4=>(y24 a us h1 h2 (h3.at (l a)) (h4.mono l))
 flat:=λk g o o2'=>x2_4 o2' λa us h1 h2 h3 h4=>⟨_,h2⟩
 item:=λk g s o d Q E lg ho o3' gi hd h=>x2_4 o3' λa us h1 h2 h3 h4=>by
  obtain⟨v,e,dv⟩:=h4.get hd
  refine wpAny_nextOf_list_item (y13 o ho h1 h2) (h3.at (lg a)) (by simpa using e) λh' o4' hs=>x1_3 o4' λo' ho' c1 c2=>h v h' s.toks o' dv (y24 a us c1 (by exact_mod_cast c2) h3 h4) ho' hs
 fin:=λk g s o Q E lg ho o5' gi hd h=>x2_4 o5' λa us h1 h2 h3 h4=>
  wpAny_nextOf_list_end hh (y13 o ho h1 h2) (h3.at (lg a)) (by rw[List.getElem?_eq_none_iff]at hd;simp;rw[h4.length];exact hd) h
theorem Nx.tup(hh:A.handled=none):Nx w A i ds (ZT ds) where
 mono:=λk g g' o l o6'=>x2_4 o6' λa us h1 h2 h3 h4=>(y24 a us h1 h2 (h3.keeps l) (h4.mono l))
 flat:=λk g o o7'=>x2_4 o7' λa us h1 h2 h3 h4=>⟨_,h2⟩
 item:=λk g s o d Q E lg ho o8' gi hd h=>x2_4 o8' λa us h1 h2 h3 h4=>by
  obtain⟨v,e,dv⟩:=h4.get hd
  refine qCd (y13 o ho h1 h2) (h3.keeps lg) (by simpa using e) λh' o9' hs=>x1_3 o9' λo' ho' c1 c2=>h v h' s.toks o' dv (y24 a us c1 (by exact_mod_cast c2) h3 h4) ho' hs
 fin:=λk g s o Q E lg ho o10' gi hd h=>x2_4 o10' λa us h1 h2 h3 h4=>
  qD9 hh (y13 o ho h1 h2) (h3.keeps lg) (by rw[List.getElem?_eq_none_iff]at hd;simp;rw[h4.length];exact hd) h
theorem Nx.str(hh:A.handled=none):Nx w A i (signs x) (ZS x) where
 mono:=λk g g' o l h=>h
 flat:=λk g o o11'=>x1_2 o11' λt h1 h2=>⟨_,h2⟩
 item:=λk g s o d Q E lg ho o12' gi hd h=>x1_2 o12' λt h1 h2=>by
  unfold signs at hd
  rw[List.getElem?_map]at hd
  obtain⟨ch,e,rfl⟩:=Option.map_eq_some_iff.1 hd
  have e:x.cps[k]? =some ch:=by simpa using e
  rcases h1 with h1|h1
  ·exact wpAny_nextOf_ascii_item (y13 o ho h1 h2) e λh' o13' hs=>x1_3 o13' λo' ho' c1 c2=>h _ h' _ o' (.str _ _) (y12 t (.inl c1) (by exact_mod_cast c2)) ho' hs
  ·exact wpAny_nextOf_wide_item (y13 o ho h1 h2) e λh' o14' hs=>x1_3 o14' λo' ho' c1 c2=>h _ h' _ o' (.str _ _) (y12 t (.inr c1) (by exact_mod_cast c2)) ho' hs
 fin:=λk g s o Q E lg ho o15' gi hd h=>x1_2 o15' λt h1 h2=>by
  have e:x.cps[k]? =none:=by unfold signs at hd;simpa using hd
  rcases h1 with h1|h1
  ·exact wpAny_nextOf_ascii_end hh (y13 o ho h1 h2) e h
  ·exact wpAny_nextOf_wide_end hh (y13 o ho h1 h2) e h
end
def Its(v:Value)(o:Obj)(h:Heap):Prop:=∀(prog:Program) (w:World) (A:Around) (s:Shared) (Q:Value→Shared→Prop) (E:Value→Shared→Prop),Le h s.heap→Q (.ref s.heap.objs.size) {s with heap:=s.heap.push o}→wpAny (model prog w) A (pyIter v) Q E s
theorem Its.list{l:Addr}{items:Array Value}(hl:h.IsList l items):Its (.ref l) (itO "list_iterator" (.ref l) 0) h:=λprog w A s Q E k q=>wpAny_pyIter_list (hl.at (k l)) q
theorem Its.tup{l:Addr}{items:Array Value}(hl:IsTup h l items):Its (.ref l) (itO "tuple_iterator" (.ref l) 0) h:=λprog w A s Q E k q=>PySem.wpAny_pyIter_tuple (hl.keeps k) q
theorem Its.str(x:Str)(t:Tok):Its (.str x t) (itO (strIterType x) (.str x t) 0) h:=λprog w A s Q E k q=>wpAny_pyIter_strU q
noncomputable abbrev zh2 (h:Heap) (o1 o2:Obj):Heap:=(h.push o1).push o2
noncomputable abbrev zh3 (h:Heap) (o1 o2:Obj):Heap:=(zh2 h o1 o2).push {cls:=.type "tuple",data:=.seq #[.ref h.objs.size,.ref (h.push o1).objs.size]}
noncomputable abbrev zh4 (h:Heap) (o1 o2:Obj):Heap:=(zh3 h o1 o2).push {cls:=.type "tuple",data:=.seq #[.none,.none]}
noncomputable abbrev zh5 (h:Heap) (o1 o2:Obj):Heap:=(zh4 h o1 o2).push {cls:=.type "zip",data:=.fields #[.none,.bool false,.bool false,.ref (zh2 h o1 o2).objs.size,.ref (zh3 h o1 o2).objs.size]}
theorem qIj(v1 v2:Value)(o1 o2:Obj):
  Meets (Builtin.«zip.__new__» ⟨[.type "zip",v1,v2],[]⟩) (λ_ R s=>Its v1 o1 s.heap∧Its v2 o2 s.heap∧R (.ok (.ret (.ref (zh4 s.heap o1 o2).objs.size))) {s with heap:=zh5 s.heap o1 o2}):=
 .of_wp λprog w A R s h=>by
  obtain⟨hp,g,d,tk,os⟩:=s;obtain⟨hl1,hl2,h⟩:=h
  have hsub:=sub_zip
  have hL1:∀{A:Around} {Q:Value→Shared→Prop} {E:Value→Shared→Prop},Q (.ref hp.objs.size) ⟨hp.push o1,g,d,tk,os⟩→wpAny (model prog w) A (pyIter v1) Q E ⟨hp,g,d,tk,os⟩:=λ{A Q E} q=>hl1 prog w A ⟨hp,g,d,tk,os⟩ Q E (Le.refl _) q
  have hL2:∀{A:Around} {Q:Value→Shared→Prop} {E:Value→Shared→Prop},Q (.ref (hp.push o1).objs.size) ⟨(hp.push o1).push o2,g,d,tk,os⟩→wpAny (model prog w) A (pyIter v2) Q E ⟨hp.push o1,g,d,tk,os⟩:=λ{A Q E} q=>hl2 prog w A ⟨hp.push o1,g,d,tk,os⟩ Q E (λb o e=>Heap.get?_push_of_some _ e) q
  wp_walk using hL1,hL2
  exact(y12 _ rfl h)
section
theorem St.newP(S:St c g R ρ σ own s)(hfree:o.isFreed=false):St c g ((s.heap.objs.size,o)::R) ρ σ own {s with heap:=s.heap.push o}:=by
 have k:Le s.heap (s.heap.push o):=λb ob e=>Heap.get?_push_of_some _ e
 obtain⟨t1,t2,t3⟩:=S.rel.taken (qAM s.heap)
 have r:=S.rel.ext k
 have rel:Rel c.w g (own++(s.heap.objs.size,o)::R) σ (s.heap.push o):=by
  have pm:(own++(s.heap.objs.size,o)::R).Perm ((s.heap.objs.size,o)::(own++R)):=List.perm_middle
  refine⟨r.keep,λp hp=>?_,(pm.map (·.1)).nodup_iff.mpr (List.nodup_cons.mpr ⟨t2,r.nodup⟩),r.rep,λa p e b hb=>⟨(r.off a p e b hb).1,λq=>?_⟩,r.apart⟩
  ·rcases List.mem_cons.mp (pm.subset hp)with rfl|hp
   ·exact⟨t1,.inl (Heap.get?_push_size _ hfree)⟩
   ·exact r.priv p hp
  ·rcases List.mem_cons.mp ((pm.map (·.1)).subset q)with q|q
   ·exact t3 a p e (by rw[←(show b=s.heap.objs.size from q)];exact hb)
   ·exact(r.off a p e b hb).2 q
 have mv:∀{q:Addr × Obj},q∈own++R→q∈own++(s.heap.objs.size,o)::R:=λ{q} h=>(List.mem_append.mp h).elim (List.mem_append_left _) λh=>List.mem_append_right _ (List.mem_cons_of_mem _ h)
 exact S.to rel λhq _=>mv hq
theorem call_zip{v1 v2:Value}{o1 o2:Obj}(S:St c g R ρ σ own s)(i1:Its v1 o1 s.heap)(i2:Its v2 o2 s.heap)(f1:o1.isFreed=false)(f2:o2.isFreed=false):
  wpAny (model pw c.w) c.A (call (.type "zip") [v1,v2]) (λv s'=>∃z TI TO j1 j2 g',v= .ref z∧Le g g'∧St c g' ([(z,ZipO TI TO .none),(TO,Pair .none .none),(j2,o2),(j1,o1)]++R) ρ σ own s'∧g'.get? TI=some (Pair (.ref j1) (.ref j2))) E s:=by
 refine callType_new PySem.F.called_zip (by decide) (PySem.F.typeCall_zip_2 _ _) (PySem.F.newCall_zip_2 _ _) (λobj=>PySem.F.args_object_init_3 obj _ _) PySem.F.entry_zip_new (qIj v1 v2 o1 o2) (y03 i1 i2 ?_)
 have S1:=S.newP f1
 have S2:=S1.newP f2
 obtain⟨g',l,S3,e⟩:=S2.newObj (o:= {cls:=.type "tuple",data:=.seq #[.ref s.heap.objs.size,.ref (s.heap.push o1).objs.size]}) rfl
 have S4:=S3.newP (o:=Pair .none .none) rfl
 have S5:=S4.newP (o:=ZipO (zh2 s.heap o1 o2).objs.size (zh3 s.heap o1 o2).objs.size .none) rfl
 show _∧_
 refine⟨(y12 _ (Heap.get?_push_size _ rfl) rfl),?_⟩
 exact(y64 _ _ _ _ _ g' rfl l S5 e)
end
def ZSrc(d:D)(ds:List D):Prop:=∀g v,DV g d v→∃o Z,o.isFreed=false∧noCD o∧Z 0 g o∧(∀h,Le g h→Its v o h)∧∀w A i,A.handled=none→Nx w A i ds Z
theorem noCD.fields{vs:Array Value}(h:o.data= .fields vs):noCD o:=⟨λv q=>by rw[h]at q;(cases q),λo1'=>x2_1 o1' λes ep q=>by rw[h]at q;(cases q)⟩
theorem noCD.seq{vs:Array Value}(h:o.data= .seq vs n):noCD o:=⟨λv q=>by rw[h]at q;(cases q),λo2'=>x2_1 o2' λes ep q=>by rw[h]at q;(cases q)⟩
theorem ZSrc.lst:ZSrc (.lst ds) ds:=λg v dv=>by
 refine dv.on λl us hl d1=>?_
 exact(y25 (itO "list_iterator" (.ref l) 0) (ZL ds) rfl (.fields rfl) (y24 l us rfl rfl hl d1) (λh k=>.list (hl.at (k l))) (λw A i hh=>.list hh))
theorem ZSrc.tup:ZSrc (.tup ds) ds:=λg v dv=>by
 refine dv.on λl us hl d1=>?_
 exact(y25 (itO "tuple_iterator" (.ref l) 0) (ZT ds) rfl (.fields rfl) (y24 l us rfl rfl hl d1) (λh k=>.tup (hl.keeps k)) (λw A i hh=>.tup hh))
theorem ZSrc.str:ZSrc (.str x) (signs x):=λg v dv=>by
 refine dv.on λt=>?_
 refine(y25 (itO (strIterType x) (.str x t) 0) (ZS x) rfl (.fields rfl) (y12 t ?_ rfl) (λh k=>.str x t) (λw A i hh=>.str hh))
 show Value.type (strIterType x)=_∨_
 unfold strIterType
 split
 ·exact .inl rfl
 ·exact .inr rfl
section
variable {X:Ro→Addr→Sg→Prop}
noncomputable abbrev zP (z TI TO j1 j2:Addr) (a b:Value) (o1 o2:Obj):Pv:=[(z,ZipO TI TO .none),(TO,Pair a b),(j2,o2),(j1,o1)]
theorem zP_noCD{z TI TO j1 j2:Addr}{a b:Value}{o1 o2:Obj}(h1:noCD o1)(h2:noCD o2):∀p∈zP z TI TO j1 j2 a b o1 o2,noCD p.2:=by
 intro p hp
 simp only[List.mem_cons,List.not_mem_nil,or_false]at hp
 rcases hp with rfl|rfl|rfl|rfl
 ·exact .fields rfl
 ·exact .seq rfl
 ·exact h2
 ·exact h1
theorem zP_apart{z TI TO j1 j2:Addr}{a b:Value}{o1 o2:Obj}(S:St c g (zP z TI TO j1 j2 a b o1 o2++R) ρ σ own s)(h:g.get? TI=some o):ZAp z TI TO j1 j2∧g.get? z=none∧g.get? TO=none∧g.get? j1=none∧g.get? j2=none:=by
 have nd:=S.rel.nodup
 rw[List.map_append,List.nodup_append]at nd
 have nd:=nd.2.1
 simp only[List.cons_append,List.nil_append,List.map_cons,List.nodup_cons,List.mem_cons,not_or]at nd
 obtain⟨⟨a1,a2,a3,_⟩,⟨b1,b2,_⟩,⟨c1,_⟩,_⟩:=nd
 have pz:=(S.rel.priv (z,ZipO TI TO .none) (List.mem_append_right _ (by simp))).1
 have pT:=(S.rel.priv (TO,Pair a b) (List.mem_append_right _ (by simp))).1
 have p2:=(S.rel.priv (j2,o2) (List.mem_append_right _ (by simp))).1
 have p1:=(S.rel.priv (j1,o1) (List.mem_append_right _ (by simp))).1
 have ne:∀{x},g.get? x=none→TI≠x:=λe q=>by rw[←q,h]at e;cases e
 exact(y05 ⟨ne pz,Ne.symm a1,Ne.symm a3,Ne.symm a2,ne pT,ne p1,ne p2,b2,b1,Ne.symm c1⟩ pz pT p1 p2)
end
theorem zP_all{z TI TO j1 j2:Addr}{a b:Value}{o1 o2:Obj}{P:Addr × Obj→Prop}(h1:P (z,ZipO TI TO .none))(h2:P (TO,Pair a b))(h3:P (j2,o2))(h4:P (j1,o1)):∀p∈zP z TI TO j1 j2 a b o1 o2,P p:=λp hp=>
 (List.mem_cons.mp hp).elim (·▸h1) λhp=>(List.mem_cons.mp hp).elim (·▸h2) λhp=>(List.mem_cons.mp hp).elim (·▸h3) λhp=>(List.mem_singleton.mp hp)▸h4
theorem zP_not{z TI TO j1 j2:Addr}{a b:Value}{o1 o2:Obj}{q:Addr}(m:q∉(zP z TI TO j1 j2 a b o1 o2).map (·.1)):q≠z∧q≠TO∧q≠j2∧q≠j1:=
 ⟨λe=>m (e▸.head _),λe=>m (e▸.tail _ (.head _)),λe=>m (e▸.tail _ (.tail _ (.head _))),λe=>m (e▸.tail _ (.tail _ (.tail _ (.head _))))⟩
section
variable {X:Ro→Addr→Sg→Prop}
def ZJ.Ar(Z:Prop)(c:Cx)(ts:List Expr)(k:Nat)(tp:Pos)(b:List Stmt)(ρ:Ro)(N:Ro→Sg→Prop)(Rt:D→Sg→Prop)(X:Ro→Addr→Sg→Prop)(ds es:List D)(υ:Sg):Prop:=∀(I:Nat→Ro→Sg→Prop) (i0:I 0 ρ υ) (step:∀i ρ1 τ1 d e,ds[i]? =some d→es[i]? =some e→I i ρ1 τ1→AS c (.Tuple ts k tp) (.tup [d,e]) ρ1 τ1 (λρ2 τ2=>STs c b ρ2 τ2 (λρ3 τ3=>I (i+1) ρ3 τ3) Rt X) (λ_ _=>False)) (fin:∀ρ1 τ1,I (min ds.length es.length) ρ1 τ1→N ρ1 τ1),Z
@[irreducible] def ZJ (c:Cx) (ts:List Expr) (k:Nat) (tp:Pos) (b:List Stmt) (ρ:Ro) (N:Ro→Sg→Prop) (Rt:D→Sg→Prop) (X:Ro→Addr→Sg→Prop) (ds es:List D) (υ:Sg):Prop:=∀Z,ZJ.Ar Z c ts k tp b ρ N Rt X ds es υ→Z
theorem ZJ.mk{ts:List Expr}{tp:Pos}{b:List Stmt}{X:Ro→Addr→Sg→Prop}{es:List D}{υ:Sg}:ZJ.Ar (ZJ c ts k tp b ρ N Rt X ds es υ) c ts k tp b ρ N Rt X ds es υ:=by delta ZJ;exact λI i0 step fin _ kk=>kk I i0 step fin
theorem ZJ.el{ts:List Expr}{tp:Pos}{b:List Stmt}{X:Ro→Addr→Sg→Prop}{es:List D}{υ:Sg}(h:ZJ c ts k tp b ρ N Rt X ds es υ):ZJ.Ar Z c ts k tp b ρ N Rt X ds es υ→Z:=by delta ZJ at h;exact h Z
def ZQ.Ar(Z:Prop)(c:Cx)(g:Heap)(R own:Pv)(ρ:Ro)(J:List D→List D→Sg→Prop)(v:Value)(s':Shared):Prop:=∀(z TI TO j1 j2:Addr) (g':Heap) (υ:Sg) (o1 o2:Obj) (Z1 Z2:Nat→Heap→Obj→Prop) (ds es:List D) (ev:v= .ref z) (l:Le g g') (S:St c g' (zP z TI TO j1 j2 .none .none o1 o2++R) ρ υ own s') (eT:g'.get? TI=some (Pair (.ref j1) (.ref j2))) (a1:Z1 0 g' o1) (a2:Z2 0 g' o2) (x1:∀w A i,A.handled=none→Nx w A i ds Z1) (x2:∀w A i,A.handled=none→Nx w A i es Z2) (q:J ds es υ),Z
@[irreducible] def ZQ (c:Cx) (g:Heap) (R own:Pv) (ρ:Ro) (J:List D→List D→Sg→Prop) (v:Value) (s':Shared):Prop:=∀Z,ZQ.Ar Z c g R own ρ J v s'→Z
theorem ZQ.mk{J:List D→List D→Sg→Prop}:ZQ.Ar (ZQ c g R own ρ J v s') c g R own ρ J v s':=by delta ZQ;exact λz TI TO j1 j2 g' υ o1 o2 Z1 Z2 ds es ev l S eT a1 a2 x1 x2 q _ k=>k z TI TO j1 j2 g' υ o1 o2 Z1 Z2 ds es ev l S eT a1 a2 x1 x2 q
theorem ZQ.el{J:List D→List D→Sg→Prop}(h:ZQ c g R own ρ J v s'):ZQ.Ar Z c g R own ρ J v s'→Z:=by delta ZQ at h;exact h Z
def ZI.Ar(Z:Prop)(c:Cx)(g g2:Heap)(R:Pv)(z TI TO j1 j2:Addr)(m:Nat)(I:Nat→Ro→Sg→Prop)(Z1 Z2:Nat→Heap→Obj→Prop)(n:Nat)(s':Shared):Prop:=∀(i:Nat) (g1:Heap) (own1:Pv) (ρ1:Ro) (σ1:Sg) (o1 o2:Obj) (a b:Value) (hn:n+i=m) (l:Le g g1) (l2:Le g2 g1) (S:St c g1 (zP z TI TO j1 j2 a b o1 o2++R) ρ1 σ1 own1 s') (hi:I i ρ1 σ1) (k1:Z1 i g1 o1) (k2:Z2 i g1 o2),Z
@[irreducible] def ZI (c:Cx) (g g2:Heap) (R:Pv) (z TI TO j1 j2:Addr) (m:Nat) (I:Nat→Ro→Sg→Prop) (Z1 Z2:Nat→Heap→Obj→Prop) (n:Nat) (s':Shared):Prop:=∀Z,ZI.Ar Z c g g2 R z TI TO j1 j2 m I Z1 Z2 n s'→Z
theorem ZI.mk{g2:Heap}{z TI TO j1 j2:Addr}{m:Nat}{I:Nat→Ro→Sg→Prop}{Z1 Z2:Nat→Heap→Obj→Prop}:ZI.Ar (ZI c g g2 R z TI TO j1 j2 m I Z1 Z2 n s') c g g2 R z TI TO j1 j2 m I Z1 Z2 n s':=by delta ZI;exact λi g1 own1 ρ1 σ1 o1 o2 a b hn l l2 S hi k1 k2 _ k=>k i g1 own1 ρ1 σ1 o1 o2 a b hn l l2 S hi k1 k2
theorem ZI.el{g2:Heap}{z TI TO j1 j2:Addr}{m:Nat}{I:Nat→Ro→Sg→Prop}{Z1 Z2:Nat→Heap→Obj→Prop}(h:ZI c g g2 R z TI TO j1 j2 m I Z1 Z2 n s'):ZI.Ar Z c g g2 R z TI TO j1 j2 m I Z1 Z2 n s'→Z:=by delta ZI at h;exact h Z
theorem qGA{ts:List Expr}{tp:Pos}{fn e1 e2:Expr}{cp:Pos}{b:List Stmt}(ht:c.top=true)(hb:c.bare=true)
  (h:WE c fn ρ σ (λfd τ=>fd= .typ "zip"∧Kept c fd∧WEs c cp [e1,e2] ρ τ (λdd υ=>∃d1 d2 ds es,dd= [d1,d2]∧ZSrc d1 ds∧ZSrc d2 es∧ZJ c ts k tp b ρ N Rt X ds es υ) (X ρ)) (X ρ))
  (hc:autoParam (eval (.Call fn [e1,e2] [] cp) c.env=(do callWith cp (←eval fn c.env) [] (backTo cp (starEach [e1,e2] c.env)) (backToKw cp (keywordEach [] c.env)))) auR)
  (he:autoParam (starEach [e1,e2] c.env=(false,eval e1 c.env)::starEach [e2] c.env) auR)(hp:autoParam (false=(backTo cp (starEach [e2] c.env)).any (·.1)) auR)
  (hs:autoParam (∀x,pure x=foldedSetIterable (.Call fn [e1,e2] [] cp) c.env x) auI):ST c (.For (.Tuple ts k tp) (.Call fn [e1,e2] [] cp) b [] p) ρ σ N Rt X:=.mk λg R own s S=>by
 refine wpAny_For (wpAny_mono (Q:=ZQ c g R own ρ (ZJ c ts k tp b ρ N Rt X)) (E:=PX c g R ρ own (X ρ)) ?_ (λv s1 hv=>?_) λ_ _ x=>x.toS) (λx=>(hs x).symm)
 ·refine Call_ (h.use S (λg1 fd τ v s1 l1 S1 dv o1'=>x0_3 o1' λefd kp q=>?_) λ_ _ x=>x) hc
  subst efd
  refine dv.on λ_=>?_
  have hw:=q.use (P:=λvs s2=>Kp (model pw c.w) s2.heap (.type "zip")∧wpAny (model pw c.w) c.A (call (.type "zip") ([]++vs)) (ZQ c g R own ρ (ZJ c ts k tp b ρ N Rt X)) (PX c g R ρ own (X ρ)) s2) (E:=PX c g R ρ own (X ρ)) S1
   (λg2 dd υ vs s2 l2 S2 dvs q2=>⟨kp g2 s2.heap _ S2.wd (.typ _) S2.rel.keep,by
    obtain⟨d1,d2,ds,es,ed,z1,z2,J⟩:=q2
    subst ed
    obtain⟨v1,v2,ev,dv1,dv2⟩:=dvs.two
    subst ev
    obtain⟨o1,Z1,f1,n1,a1,t1,x1⟩:=z1 g2 v1 dv1
    obtain⟨o2,Z2,f2,n2,a2,t2,x2⟩:=z2 g2 v2 dv2
    refine wpAny_mono (call_zip S2 (t1 _ S2.rel.keep) (t2 _ S2.rel.keep) f1 f2) (λv s3 hz=>?_) λ_ _ x=>x
    obtain⟨z,TI,TO,j1,j2,g3,ev,l3,S3,eT⟩:=hz
    exact(.mk z TI TO j1 j2 g3 υ o1 o2 Z1 Z2 ds es ev ((l1.trans l2).trans l3) S3 eT ((x1 c.w c.A j1 (S.ok.hh hb)).mono _ _ _ _ l3 a1) ((x2 c.w c.A j2 (S.ok.hh hb)).mono _ _ _ _ l3 a2) x1 x2 J)⟩) λ_ _ x=>x.le l1
  rw[he]at hw ⊢
  exact callWith_of (P:=λh=>Kp (model pw c.w) h (.type "zip")) (by show((false || (backTo cp (starEach [e2] c.env)).any (·.1)) || false)=false;rw[hp.symm];rfl) (λh x=>x) (evalArgs_plain hw)
 ·refine hv.el λz TI TO j1 j2 g2 υ o1 o2 Z1 Z2 ds es ev l2 S2 eT a1 a2 x1 x2 J=>J.el λI i0 step fin=>?_
  subst ev
  have hz:=(S2.rel.priv (z,ZipO TI TO .none) (List.mem_append_right _ (.head _))).2.exact rfl
  refine wpAny_pyIter_zip hz ?_
  have nz:∀{o1 o2:Obj},(∃i g,Z1 i g o1)→(∃i g,Z2 i g o2)→∀{a b:Value},∀p∈zP z TI TO j1 j2 a b o1 o2,noCD p.2:=λ{o1 o2} ⟨i,g,e⟩ ⟨i',g',e'⟩ {a b}=>by
   obtain⟨_,q⟩:=(x1 c.w c.A j1 (S.ok.hh hb)).flat _ _ _ e
   obtain⟨_,q'⟩:=(x2 c.w c.A j2 (S.ok.hh hb)).flat _ _ _ e'
   exact zP_noCD (.fields q) (.fields q')
  have back:∀{g1 ρ' own' a b o1 o2 ev s'},(∃i g,Z1 i g o1)→(∃i g,Z2 i g o2)→Le g g1→PX c g1 (zP z TI TO j1 j2 a b o1 o2++R) ρ' own' (X ρ') ev s'→notedBy (model pw c.w) c.A c.env (λe s'=>cameBackBy (model pw c.w) c.A c.env (PXs c g R X) e s') ev s':=λ{g1 ρ' own' a b o1 o2 ev s'} y1 y2 l x=>
   wpAny_mono (came ht (x.dropL (nz y1 y2))) (λ_ _ y=>wpAny_mono y (λ_ _ z=>(z.le l).toS) λ_ _ z=>(z.le l).toS) λ_ _ y=>wpAny_mono y (λ_ _ z=>(z.le l).toS) λ_ _ z=>(z.le l).toS
  refine codeAny_forLoop_any (ZI c g g2 R z TI TO j1 j2 (min ds.length es.length) I Z1 Z2)
   (λn s3 o2'=>o2'.el λi g3 own3 ρ3 σ3 o3 o4 a b' hn l3 l23 S3 i3 k1 k2=>?_) (min ds.length es.length) (.mk 0 g2 own ρ υ o1 o2 .none .none rfl l2 (Le.refl g2) S2 i0 a1 a2)
  have eT3:=l23 _ _ eT
  obtain⟨ap,gz,gT,gj1,gj2⟩:=zP_apart S3 eT3
  have pv:∀{q:Addr × Obj} {vs:Array Value},q∈zP z TI TO j1 j2 a b' o3 o4→q.2.data= .fields vs→s3.heap.get? q.1=some q.2:=λm e=>(S3.rel.priv _ (List.mem_append_right _ (List.mem_append_left _ m))).2.exact e
  obtain⟨_,f1⟩:=(x1 c.w c.A j1 (S.ok.hh hb)).flat _ _ _ k1
  obtain⟨_,f2⟩:=(x2 c.w c.A j2 (S.ok.hh hb)).flat _ _ _ k2
  have hz:IsZip s3.heap z TI TO .none:=pv (q:=(z,ZipO TI TO .none)) (.head _) rfl
  have h1:s3.heap.get? j1=some o3:=pv (q:=(j1,o3)) (.tail _ (.tail _ (.tail _ (.head _)))) f1
  have h2:s3.heap.get? j2=some o4:=pv (q:=(j2,o4)) (.tail _ (.tail _ (.head _))) f2
  have hT:IsPair s3.heap TO a b':=by
   rcases(S3.rel.priv (TO,Pair a b') (List.mem_append_right _ (.tail _ (.head _)))).2 with e| ⟨⟨es,ep,q⟩,_⟩
   ·exact e
   ·cases q
  have hTI:IsPair s3.heap TI (.ref j1) (.ref j2):=S3.rel.keep _ _ eT3
  refine next_any (x1 c.w c.A.in1 j1 (S.ok.hh hb)) (x2 c.w c.A.in1 j2 (S.ok.hh hb)) ap S3.rel.keep gz gT gj1 gj2 hz hTI hT h1 h2 k1 k2 (λd e h' tk x y o5 o6 hd he' dx dy q1 q2 q3 q4 q5 q6 q7 q8 q9=>?_) λh' tk hz hk=>?_
  ·have hlt:i < min ds.length es.length:=Nat.lt_min.mpr ⟨(List.getElem?_eq_some_iff.mp hd).1,(List.getElem?_eq_some_iff.mp he').1⟩
   refine wpAny_letOwnedTupleGo_zip (s:= {s3 with heap:=h',toks:=tk}) q1 λh'' hz'' hs''=>?_
   have zn:z≠s3.heap.objs.size:=Nat.ne_of_lt (Heap.lt_size hz)
   have ke:∀{q:Addr} {o:Obj},s3.heap.get? q=some o→q≠s3.heap.objs.size:=λe=>Nat.ne_of_lt (Heap.lt_size e)
   have S4:St c g3 (zP z TI TO j1 j2 x y o5 o6++R) ρ3 σ3 own3 {s3 with heap:=h'',toks:=tk}:=by
    refine S3.turnL (P':=zP z TI TO j1 j2 x y o5 o6) (nz (y21 _ _ k1) (y21 _ _ k2)) rfl (zP_all hz'' (hs''.extBut _ _ ap.TOz q2) (hs''.extBut _ _ ap.i2z q4) (hs''.extBut _ _ ap.i1z q3)) λb ob m e=>?_
    ·have m:=zP_not m
     exact hs''.extBut _ _ m.1 (q9 b ob m.1 m.2.1 m.2.2.2 m.2.2.1 e)
   obtain⟨g4,l4,S5,fz⟩:=S4.ext (h':=h'') (tk:=tk) (λb o e=>e)
   have eP:g4.get? s3.heap.objs.size=some (Pair x y):=fz _ _ (hs''.extBut _ _ (Ne.symm zn) q7) (by
    have fr:=S3.free_new (qAM s3.heap)
    refine⟨λm=>fr.1 ?_,fr.2⟩
    simpa only[List.map_append,List.map_cons,List.map_nil] using m)
   have dv:DV g4 (.tup [d,e]) (.ref s3.heap.objs.size):=.tup (vs:=[x,y]) (y13 _ eP rfl ⟨_,rfl⟩) (.cons (dx.mono l4) (.cons (dy.mono l4) .nil))
   have m1:=(x1 c.w c.A j1 (S.ok.hh hb)).mono _ _ _ _ l4 q5
   have m2:=(x2 c.w c.A j2 (S.ok.hh hb)).mono _ _ _ _ l4 q6
   refine wpAny_mono ((step i ρ3 σ3 _ _ hd he' i3).go g4 _ own3 _ _ S5 dv) (λ_ s5 hq=>?_) λev s5 x=>x.no
   obtain⟨g5,own5,ρ5,σ5,l5,S6,q⟩:=hq
   have w1:=(x1 c.w c.A j1 (S.ok.hh hb)).mono _ _ _ _ l5 m1
   have w2:=(x2 c.w c.A j2 (S.ok.hh hb)).mono _ _ _ _ l5 m2
   refine wpAny_mono (q.go g5 _ own5 s5 S6) (λfl s6 p=>?_) λev s6 hx=>?_
   ·cases fl with
    |next=>
     obtain⟨g6,own6,ρ6,σ6,l6,S7,i6⟩:=p
     exact(y12 (n - 1) (qB7 hn hlt).1 (.mk (i+1) g6 own6 ρ6 σ6 o5 o6 x y ((qB7 hn hlt).2) (((l3.trans l4).trans l5).trans l6) (((l23.trans l4).trans l5).trans l6) S7 i6 ((x1 c.w c.A j1 (S.ok.hh hb)).mono _ _ _ _ l6 w1) ((x2 c.w c.A j2 (S.ok.hh hb)).mono _ _ _ _ l6 w2)))
    |ret v=>
     obtain⟨g6,own6,ρ6,σ6,d6,l6,S7,dv6,r6⟩:=p
     exact(.mk g6 own6 ρ6 σ6 d6 (((l3.trans l4).trans l5).trans l6) (S7.dropL (nz (y21 _ _ w1) (y21 _ _ w2))) dv6 r6)
    |brk=>exact p.elim
    |cont=>exact p.elim
   ·obtain⟨own6,ρ6,hx⟩:=hx
    exact back (y21 _ _ w1) (y21 _ _ w2) ((l3.trans l4).trans l5) hx
  ·have hi:i=min ds.length es.length:=Nat.le_antisymm (hn▸Nat.le_add_left i n) (hz.elim (λz=>Nat.le_trans (Nat.min_le_left _ _) (List.getElem?_eq_none_iff.mp z)) λz=>Nat.le_trans (Nat.min_le_right _ _) (List.getElem?_eq_none_iff.mp z))
   subst hi
   refine wpAny_execs_nil (.mk g3 own3 ρ3 σ3 l3 (S3.endL (tk:=tk) (nz (y21 _ _ k1) (y21 _ _ k2)) (λc' o m e=>?_)) (fin ρ3 σ3 i3))
   have m:=zP_not m
   exact hk c' o m.1 m.2.1 m.2.2.2 m.2.2.1 e
end
section
open Sem (wp)
noncomputable def badC(c:Code):Bool:=if e:c.ctorIdx=1 then Code.builtin.elim (motive:=λ_=>Bool) c e λid _=>Builtin.Bytes.decodersThatHold.contains id else false
def Cl(Γ:Ctx):Prop:=∀x∈Γ.below,badC x.1=false
noncomputable def wpC{α:Type}(M:Model)(A:Around)(t:Sem α)(Q:α→Shared→Prop)(E:Value→Shared→Prop)(s:Shared):Prop:=
 ∀Γ p,Γ.In A→badC Γ.code=false→Cl Γ→wp M Γ t (λa _ s'=>Q a s') (λe _ s'=>E e s') p s
noncomputable def qAn(M:Model)(A:Around)(c:Code)(R:Result→Shared→Prop)(s:Shared):Prop:=
 ∀Γ p,Γ.code=c→Γ.Below A→Cl Γ→wpCode M Γ R p s
section
variable {α β:Type}{M:Model}
theorem C_of{t:Sem α}{Q:α→Shared→Prop}(h:wpAny M A t Q E s):wpC M A t Q E s:=λΓ p hΓ _ _=>h Γ p hΓ
theorem codeC_of{c:Code}{R:Result→Shared→Prop}(h:codeAny M A c R s):qAn M A c R s:=λΓ p hc hΓ _=>h Γ p hc hΓ
theorem qA8{a:α}{Q:α→Shared→Prop}(h:Q a s):wpC M A (pure a) Q E s:=C_of (wpAny_pure h)
theorem qA6{t:Sem α}{Q Q':α→Shared→Prop}{E':Value→Shared→Prop}(h:wpC M A t Q E s)(hQ:∀a s,Q a s→Q' a s)(hE:∀e s,E e s→E' e s):wpC M A t Q' E' s:=
 λΓ p hΓ b k=>Sem.wp_mono M Γ t (λa _ s=>hQ a s) (λe _ s=>hE e s) p s (h Γ p hΓ b k)
theorem qA7{m:Sem α}{f:α→Sem β}{Q:β→Shared→Prop}(h:wpC M A m (λa s'=>wpC M A (f a) Q E s') E s):wpC M A (m >>=f) Q E s:=λΓ p hΓ b k=>by
 rw[Sem.wp_bind']
 exact Sem.wp_mono M Γ m (λa p' s' h'=>h' Γ p' hΓ b k) (λ_ _ _ h'=>h') p s (h Γ p hΓ b k)
theorem qA2{m:Sem α}{f:α→Sem β}{Q:β→Shared→Prop}(h:wpAny M A m (λa s'=>wpC M A (f a) Q E s') E s):wpC M A (m >>=f) Q E s:=qA7 (C_of h)
theorem qCa{m:Sem α}{f:Value→Sem Unit}{Q:α→Shared→Prop}(h:wpC M A m Q (λe s'=>wpAny M A (f e) (λ_ s''=>E e s'') E s') s):wpC M A (m.onRaise f) Q E s:=λΓ p hΓ b k=>by
 rw[Sem.wp_onRaise]
 exact Sem.wp_mono M Γ m (λ_ _ _ h'=>h') (λe p' s' h'=>h' Γ p' hΓ) p s (h Γ p hΓ b k)
theorem qGN{m:Sem α}{Q:Except Value α→Shared→Prop}(h:wpC M A m (λa=>Q (.ok a)) (λe=>Q (.error e)) s):wpC M A m.attempt Q E s:=
 λΓ p hΓ b k=>by rw[Sem.wp_attempt];exact h Γ p hΓ b k
theorem qAc{m:Sem α}{Q:α→Shared→Prop}(h:wpC M A m Q E s):wpC M A (holding vs m) Q E s:=
 λΓ p hΓ b k=>by rw[Sem.wp_holding];exact h Γ p hΓ b k
theorem qAC{f:Unit→Sem β}{Q:β→Shared→Prop}(h:wpC M A (f ()) Q E s):wpC M A (standAt pos >>=f) Q E s:=qA2 (wpAny_standAt h)
theorem C_run{c:Code}{h:Option Value}{Q:Flow→Shared→Prop}
  (hc:qAn M (A.mark h) c (λr s'=>match r with| .ok f=>Q f s'| .error e=>E e s') s)(hnb:h≠some byPass:=by intro x;cases x):wpC M A (run c h) Q E s:=
 λΓ p hΓ b k=>by
  rw[Sem.wp_run]
  refine hc _ p rfl (hΓ.enter c h p hnb) λx hx=>?_
  rcases List.mem_cons.mp hx with e|hx
  ·rw[e];exact b
  ·exact k x hx
theorem qEZ{f:Value}{pos:List Value}{kw:List (Str × Value)}{Q:Value→Shared→Prop}
  (hc:qAn M A (.call f ⟨pos,kw⟩) (λr s'=>match r with| .ok (.ret v)=>Q v s'| .ok _=>False| .error e=>E e s') s):wpC M A (call f pos kw) Q E s:=
 λΓ p hΓ b k=>by
  show wp M Γ (runValue _) _ _ p s
  rw[Sem.wp_runValue]
  refine hc _ p rfl (hΓ.enter _ none p (by intro x;cases x)) λx hx=>?_
  rcases List.mem_cons.mp hx with e|hx
  ·rw[e];exact b
  ·exact k x hx
theorem qBZ{c:Code}{R R':Result→Shared→Prop}(h:qAn M A c R s)(hR:∀r s,R r s→R' r s):qAn M A c R' s:=λΓ p hc hΓ k=>wpCode_mono hR (h Γ p hc hΓ k)
theorem qAh{c:Code}{R:Result→Shared→Prop}(nb:badC c=false)
  (h:wpC M (A.under c) (M.den c) (λfin s'=>match fin with| .done f=>R (.ok f) s'| .again c'=>c'.quiet=true∧qAn M A c' R s') (λe s'=>R (.error e) s') s):qAn M A c R s:=λΓ p hc hΓ k=>by
 rw[wpCode_iff_wp,hc]
 refine Sem.wp_mono M Γ _ (λfin p' s' h'=>?_) (λ_ _ _ h'=>h') p s (h Γ p (hc▸hΓ.in) (hc▸nb) k)
 cases fin with
 |done f=>exact h'
 |again c'=>exact⟨h'.1,h'.2 (Γ.goto c') p' rfl (hΓ.goto c') k⟩
theorem qCp{c:Code}{R:Result→Shared→Prop}(nb:badC c=false)(hq:c.quiet=true)(I:Nat→Shared→Prop)
  (turn:∀n s,I n s→wpC M (A.under c) (M.den c)
   (λfin s'=>match fin with
    | .done f=>R (.ok f) s'
    | .again c'=>(c'=c∧∃m,m < n∧I m s')∨(c'.quiet=true∧qAn M A c' R s')) (λe s'=>R (.error e) s') s)
  (n:Nat)(h:I n s):qAn M A c R s:=by
 induction n using Nat.strongRecOn generalizing s with
 |ind n ih=>
  refine qAh nb (qA6 (turn n s h) (λfin s' z=>?_) λ_ _ z=>z)
  cases fin with
  |done f=>exact z
  |again c'=>exact z.elim (λ⟨e,m,hm,i⟩=>⟨e▸hq,e▸ih m hm i⟩) λz=>z
theorem qJH{f:Code × Pos→Bool}(hf:∀c p,c.isGuard=false→badC c=false→f (c,p)=false){l:List (Code × Pos)}(h:∀x∈l,badC x.1=false)(g:guardsOf l= []):l.any f=false:=by
 induction l with
 |nil=>rfl
 |cons q l ih=>
  cases q with|mk c p=>
  rw[guardsOf_cons]at g
  have g1:=List.append_eq_nil_iff.mp g
  have hg:c.isGuard=false:=by
   cases e:c.isGuard with
   |false=>rfl
   |true=>have:=g1.1;simp[Code.guards,e]at this
  rw[List.any_cons,hf c p hg (h _ List.mem_cons_self),ih (λx hx=>h x (List.mem_cons_of_mem _ hx)) g1.2];rfl
theorem qII{f:Code × Pos→Bool}{Q:Bool→Shared→Prop}(hg:A.guards=some [])(hf:∀c p,c.isGuard=false→badC c=false→f (c,p)=false)(h:Q false s):
  wpC M A (do return(←stack).any f) Q E s:=λΓ p hΓ b k=>by
 show Q (((Γ.code,p)::Γ.below).any f) s
 rw[qJH hf (λx hx=>?_) (by rw[guardsOf_cons];exact hΓ.2.2.2.1 _ hg)]
 ·exact h
 ·rcases List.mem_cons.mp hx with e|hx
  ·rw[e];exact b
  ·exact k x hx
end
section
variable {α:Type}{R:Result→Shared→Prop}{env:Env}
end
section
variable {α:Type}{M:Model}{env:Env}
theorem C_ifT{b:Bool}{x y:Sem α}{Q:α→Shared→Prop}(hb:true=b)(h:wpC M A x Q E s):wpC M A (if b=true then x else y) Q E s:=by subst hb;exact h
theorem qGJ{b:Bool}{x y:Sem α}{Q:α→Shared→Prop}(hb:b=false)(h:wpC M A y Q E s):wpC M A (if b=true then x else y) Q E s:=by subst hb;exact h
theorem qFJ{m:Sem α}{Q:α→Shared→Prop}(h:wpC M A m Q (notedBy M A env E) s):wpC M A (m.onRaise λx=>do noteFrame x env;theTreesLotGoes x) Q E s:=
 qCa (qA6 h (λ_ _ q=>q) λ_ _ hx=>wpAny_bind (wpAny_mono hx (λ_ _ e=>wpAny_theTreesLotGoes e) λ_ _ e=>e))
theorem qJj{m:Sem α}{Q:α→Shared→Prop}(h:wpC M A m Q (notedBy M A env E) s):wpC M A (m.onRaise λx=>do noteFrame x env;standAt pos) Q E s:=
 qCa (qA6 h (λ_ _ q=>q) λ_ _ hx=>wpAny_bind (wpAny_mono hx (λ_ _ e=>wpAny_standAt e) λ_ _ e=>e))
theorem qGK{st rest}{Q:Flow→Shared→Prop}(h:wpC M A (exec st env) (λf s'=>match f with| .next=>wpC M A (execs rest env) Q E s'|f=>Q f s') E s):wpC M A (execs (st::rest) env) Q E s:=by
 rw[execs_cons]
 refine qA7 (qA6 h (λf s' z=>?_) λ_ _ z=>z)
 cases f <;> first|exact z|exact qA8 z
theorem qE5{m:Sem Value}{Q:Value→Shared→Prop}(h:wpAny M A m Q E s):wpC M A (operate vs m) Q E s:=
 λΓ p hΓ _ _=>by rw[Sem.wp_operate];exact h Γ p hΓ
theorem qIJ{Q:Unit→Shared→Prop}(h:wpAny M A (storeName env x v) Q E s):wpC M A (bindName env x v) Q E s:=
 λΓ p hΓ _ _=>by rw[Sem.wp_bindName];exact h Γ p hΓ
theorem qFL{x pos' value pos}{Q:Flow→Shared→Prop}(h:wpC M A (eval value env) (λv s₁=>wpAny M A (storeName env x v) (λ_=>Q .next) E s₁) E s)
  (hs:autoParam (pure false=swapsWith value (some (.Name x pos')) pos.line env) auR):wpC M A (exec (.Assign [.Name x pos'] value pos) env) Q E s:=by
 rw[exec_Assign_Name env x pos' value pos hs.symm]
 exact qAC (qA7 (qA6 h (λv s₁ h₁=>qAC (qA7 (qA6 (qIJ h₁) (λ_ _ z=>qA8 z) λ_ _ z=>z))) λ_ _ z=>z))
theorem C_If{test body orelse pos}{Q:Flow→Shared→Prop}(h:wpC M A (isTrue test env (eval test env)) (λb s₂=>if b then wpC M A (execs body env) Q E s₂ else wpC M A (execs orelse env) Q E s₂) E s):
  wpC M A (exec (.If test body orelse pos) env) Q E s:=by
 rw[exec_If]
 refine qAC (qA7 (qA6 h (λb s2 z=>?_) λ_ _ z=>z))
 cases b <;> exact z
theorem C_Return{e pos}{Q:Flow→Shared→Prop}(h:wpC M A (eval e env) (λv=>Q (.ret v)) E s):wpC M A (exec (.Return (some e) pos) env) Q E s:=by
 rw[exec_Return_some]
 exact qAC (qA7 (qA6 h (λv s' z=>qA8 z) λ_ _ z=>z))
theorem qHZ{c:Code}{h:Option Value}{Q:Flow→Shared→Prop}
  (hc:qAn M (A.mark h) c (λr s'=>match r with| .ok f=>Q f s'| .error e=>cameBackBy M A env E e s') s)(hnb:h≠some byPass:=by intro x;cases x):wpC M A (runOwn c env h) Q E s:=by
 unfold runOwn
 exact qCa (C_run hc hnb)
theorem C_While{test body orelse pos}{Q:Flow→Shared→Prop}
  (h:qAn M A (.whileLoop test body orelse env) (λr s'=>match r with| .ok f=>Q f s'| .error e=>cameBackBy M A env E e s') s):wpC M A (exec (.While test body orelse pos) env) Q E s:=by
 rw[exec_While];exact qAC (qHZ h)
theorem C_For{target iter body orelse pos}{Q:Flow→Shared→Prop}
  (h:wpC M A (eval iter env) (λx s₁=>wpAny M A (pyIter x) (λit s₂=>
   qAn M A (.forLoop target it body orelse env) (λr s'=>match r with| .ok f=>Q f s'| .error e=>cameBackBy M A env E e s') s₂) E s₁) E s)
  (hs:autoParam (∀x,pure x=foldedSetIterable iter env x) auI):wpC M A (exec (.For target iter body orelse pos) env) Q E s:=by
 rw[exec_For]
 refine qAC (qA7 (qA6 h (λx s₁ h₁=>?_) λ_ _ z=>z))
 rw[(λx=>(hs x).symm) x]
 exact qA2 (wpAny_pure (qAC (qA2 (wpAny_holding (wpAny_mono h₁ (λit s₂ h₂=>qHZ h₂) λ_ _ z=>z)))))
theorem C_BinOp{l op r pos}{Q:Value→Shared→Prop}(h:wpC M A (eval l env) (λa s₁=>wpC M A (eval r env) (λb s₂=>wpAny M A (binaryOp op a b) Q E s₂) E s₁) E s):wpC M A (eval (.BinOp l op r pos) env) Q E s:=by
 rw[eval_BinOp]
 exact qA7 (qA6 h (λa s₁ h₁=>qA7 (qAc (qA6 h₁ (λb s₂ h₂=>qAC (qE5 h₂)) λ_ _ z=>z))) λ_ _ z=>z)
theorem qIK{l op r pos}{Q:Value→Shared→Prop}(h:wpC M A (eval l env) (λa s₁=>wpC M A (eval r env) (λb s₂=>wpAny M A (compareOp op a b) Q E s₂) E s₁) E s)(hm:behindInMarks op r=false):
  wpC M A (eval (.Compare l [op] [r] pos) env) Q E s:=by
 rw[eval_Compare1]
 refine qA7 (qA6 h (λa s₁ h₁=>qA7 (qAc ?_)) λ_ _ z=>z)
 rw[markedBehindIn_of_false hm]
 exact qA6 h₁ (λb s₂ h₂=>qAC (qE5 h₂)) λ_ _ z=>z
theorem qCu{l op r pos whole}{Q:Bool→Shared→Prop}
  (h:wpC M A (eval l env) (λa s₁=>wpC M A (eval r env) (λb s₂=>wpAny M A (compareOp op a b) (λc s₃=>wpAny M A (truthy c) Q E s₃) E s₂) E s₁) E s)(hm:behindInMarks op r=false):
  wpC M A (isTrue (.Compare l [op] [r] pos) env whole) Q E s:=by
 rw[isTrue_Compare1]
 refine qA7 (qA6 h (λa s₁ h₁=>qA7 (qAc ?_)) λ_ _ z=>z)
 rw[markedBehindIn_of_false hm]
 exact qA6 h₁ (λb s₂ h₂=>qAC (qA7 (qA6 (qE5 h₂) (λc s₃ h₃=>qAc (C_of h₃)) λ_ _ z=>z))) λ_ _ z=>z
theorem qH4{x:Expr}{rest:List Expr}{pos whole}{Q:Bool→Shared→Prop}(h:wpC M A (isTrue x env (eval x env)) (λb s₁=>if b then Q true s₁ else wpAny M A (allTrue .Or rest env) Q E s₁) E s):
  wpC M A (isTrue (.BoolOp .Or (x::rest) pos) env whole) Q E s:=by
 rw[arm_isTrue_BoolOp]
 refine qA7 (qA6 h (λb s₁ h₁=>?_) λ_ _ z=>z)
 cases b
 ·exact C_of h₁
 ·exact qA8 h₁
theorem C_IfExp{test body orelse:Expr}{Q:Value→Shared→Prop}
  (h:wpC M A (isTrue test env (eval test env)) (λb s₁=>if b then wpC M A (eval body env) Q E s₁ else wpC M A (eval orelse env) Q E s₁) E s):wpC M A (eval (.IfExp test body orelse pos) env) Q E s:=by
 rw[arm_eval_IfExp]
 refine qA7 (qA6 h (λb s₁ h₁=>?_) λ_ _ z=>z)
 cases b <;> exact h₁
theorem qJi{x:Sem Value}{rest:List (Bool × Sem Value)}{Q:List Value→Shared→Prop}
  (h:wpC M A x (λv s₁=>wpC M A (spliced rest) (λvs s₂=>Q (v::vs) s₂) E s₁) E s):wpC M A (spliced ((false,x)::rest)) Q E s:=by
 rw[spliced]
 refine qA7 (qA6 h (λv s₁ h₁=>?_) λ_ _ z=>z)
 exact qA7 (qA8 (qA7 (qAc (qA6 h₁ (λvs s₂ h₂=>qA8 h₂) λ_ _ z=>z))))
theorem qEY{f:Value}{x:Sem Value}{rest:List (Bool × Sem Value)}{Q:Args→Shared→Prop}
  (h:wpC M A (spliced ((false,x)::rest)) (λvs s'=>Q ⟨vs,[]⟩ s') E s):wpC M A (evalArgs f true ((false,x)::rest) []) Q E s:=by
 refine qA7 (qA6 h (λvs s' h'=>?_) λ_ _ z=>z)
 exact qAc (qA7 (qA8 (qA7 (qA8 (qA8 h')))))
theorem qCv{f:Value}{first:List Value}{P:Heap→Prop}{args:List (Bool × Sem Value)}{Q:Value→Shared→Prop}(hplain:args.any (·.1)=false)
  (hk:∀h,P h→∃k,(k=Keeper.frame∨k=Keeper.machine∨k=Keeper.boundFrame)∧Looks M h (keeperOf f) k)
  (h:wpC M A (evalArgs f true args []) (λa s₁=>P s₁.heap∧wpC M A (call f (first++a.pos) a.kw) Q E s₁) E s):wpC M A (callWith pos f first args []) Q E s:=by
 unfold callWith
 refine qA7 (qAc (qA6 h (λa s₁ h₁=>qAC ?_) λ_ _ z=>z))
 obtain⟨k,hk',L⟩:=hk _ h₁.1
 have hpl:(args.any (·.1) || ([]:List (Option Str × Sem Value)).any (·.1.isNone))=false:=by rw[hplain];rfl
 rw[hpl]
 refine qA2 (L.here ?_)
 have tail:∀{t:Sem Value},wpC M A t Q E s₁→wpC M A (t >>=λr=>holding [r] point >>=λ_=>pure r) Q E s₁:=
  λht=>qA7 (qA6 ht (λr s₂ hr=>qA2 (wpAny_holding (wpAny_point (qA8 hr)))) λ_ _ z=>z)
 have marked (mk:Value):wpC M A (callMarked mk f (first++a.pos) a.kw) Q E s₁:=by
  unfold callMarked
  exact λΓ p hΓ nb k=>by rw[Sem.wp_keep];exact h₁.2 Γ p hΓ nb k
 rcases hk' with rfl|rfl|rfl <;> dsimp only <;> first|exact tail h₁.2| (split <;> first|exact tail h₁.2|exact tail (marked _))
theorem C_Call{func:Expr}{args:List Expr}{Q:Value→Shared→Prop}
  (h:wpC M A (eval func env) (λf s₁=>wpC M A (callWith pos f [] (backTo pos (starEach args env)) []) Q E s₁) E s)
  (he:eval (.Call func args [] pos) env=(do callWith pos (←eval func env) [] (backTo pos (starEach args env)) (backToKw pos (keywordEach [] env)))):
  wpC M A (eval (.Call func args [] pos) env) Q E s:=by rw[he];exact qA7 h
theorem qGO{o:Expr}{name:Str}{apos:Pos}{args:List Expr}{pl:Sem Bool}{Q:Value→Shared→Prop}
  (h:wpC M A (eval o env) (λov s₁=>wpAny M A (getMethod ov name pl) (λfx s₂=>wpC M A (callWith pos fx.1 fx.2 (backTo pos (starEach args env)) []) Q E s₂) E s₁) E s)
  (he:eval (.Call (.Attribute o name apos) args [] pos) env=(do
   let ov ←eval o env
   standAt apos.atName
   let(f,first) ←holding [ov] (getMethod ov name pl)
   callWith pos f first (backTo pos (starEach args env)) [])):wpC M A (eval (.Call (.Attribute o name apos) args [] pos) env) Q E s:=by
 rw[he]
 refine qA7 (qA6 h (λov s₁ h₁=>qAC (qA2 (wpAny_holding (wpAny_mono h₁ (λfx s₂ h₂=>?_) λ_ _ z=>z)))) λ_ _ z=>z)
 exact h₂
theorem C_Tuple{elts:List Expr}{Q:Value→Shared→Prop}
  (h:wpC M A (spliced (backTo pos (starEach elts env)))
   (λvs s₁=>vs.length≤sizeLine∧Q (.ref s₁.heap.objs.size) {s₁ with heap:=s₁.heap.push {cls:=.type "tuple",data:=.seq vs.toArray}}) E s):wpC M A (eval (.Tuple elts k pos) env) Q E s:=by
 rw[arm_eval_Tuple]
 exact qAC (qA7 (qA6 h (λvs s₁ h₁=>C_of (wpAny_newObj_type h₁.2 (by show vs.toArray.size≤sizeLine;rw[List.size_toArray];exact h₁.1))) λ_ _ z=>z))
theorem qJh{body orelse:Sem Flow}{h₀:ExceptHandler}{hs:List ExceptHandler}{Q:Flow→Shared→Prop}
  (h:wpC M A body (λf s₁=>match f with| .next=>wpAny M A orelse Q E s₁|f=>Q f s₁)
   (λe s₁=>wpAny M A (noteFrame e env) (λ_ s₂=>wpAny M A (setFlight e none) (λ_ s₃=>wpAny M A (handleBy e env (h₀::hs)) Q E s₃) E s₂) E s₁) s):
  wpC M A (tryStmt false body (h₀::hs) orelse [] env) Q E s:=by
 unfold tryStmt
 refine qA7 (qGN (qA6 h (λf s₁ h₁=>?_) λe s₁ h₁=>?_))
 ·cases f
  case next=>exact C_of h₁
  all_goals exact qA8 h₁
 ·exact qA2 (wpAny_mono h₁ (λ_ _ h₂=>qA2 (wpAny_mono h₂ (λ_ _ z=>C_of z) λ_ _ z=>z)) λ_ _ z=>z)
theorem C_Try{body orelse:List Stmt}{h₀:ExceptHandler}{hs:List ExceptHandler}{Q:Flow→Shared→Prop}
  (h:wpC M A (execs body env) (λf s₁=>match f with| .next=>wpAny M A (execs orelse env) Q E s₁|f=>Q f s₁)
   (λe s₁=>wpAny M A (noteFrame e env) (λ_ s₂=>wpAny M A (setFlight e none) (λ_ s₃=>wpAny M A (handleBy e env (h₀::hs)) Q E s₃) E s₂) E s₁) s):
  wpC M A (exec (.Try body (h₀::hs) orelse [] pos) env) Q E s:=by
 rw[arm_exec_Try]
 exact qAC (qJh h)
theorem C_compr{scope:Scope}{newAcc first:Sem Value}{g:Comprehension}{gs:List Comprehension}{Q:Value→Shared→Prop}
  (hcl:clausesOf e=g::gs)(hs:∀x,foldedSetIterable g.iter env x=pure x)(hclos:closureFor scope env=pure cl)
  (hkind:scope.kind= .function)(hnames:∀x∈scope.names,x.2= .local→scope.names.lookup x.1=some .local)
  (h:wpAny M A first (λx s₁=>wpAny M A (pyIter x) (λit s₂=>wpAny M A newAcc (λacc s₃=>
   wpAny M A (newFunctionEnv scope env.globals cl [] env.qual none .none (some env)) (λcenv s₄=>
    qAn M A (.compStart e 0 it acc {cenv with scope:=relabel scope env}) (compPost M A E none Q acc cenv.locals) s₄) E s₃) E s₂) E s₁) E s):
  wpC M A (comprehension e scope env pos newAcc false first none) Q E s:=by
 unfold comprehension
 rw[hclos,hcl]
 refine qA2 (wpAny_mono h (λx s₁ h₁=>qAC ?_) λ_ _ h'=>h')
 refine qA2 (wpAny_of_eq (hs x) (qA2 (wpAny_holding (wpAny_mono h₁ (λit s₂ h₂=>?_) λ_ _ h'=>h'))))
 refine qA2 (wpAny_mono h₂ (λacc s₃ h₃=>?_) λ_ _ h'=>h')
 refine qA2 (wpAny_pure (qA2 (wpAny_mono h₃ (λcenv s₄ h₄=>?_) λ_ _ h'=>h')))
 dsimp only
 have hv:∀x∈(scope.names.filter λx=>(x.2== .local || x.2== .cell) && x.1 !=(".0":Str)).reverse,x.2= .local→
   Env.kindOf {cenv with scope:=relabel scope env} x.1=some .local:=λx hx hl=>lookup_relabel_local (hnames x (List.mem_filter.mp (List.mem_reverse.mp hx)).1 hl)
 refine qAc (qA7 (qGN (qAc (C_run (qBZ h₄ λr s' hr=>?_)))))
 cases r with
 |ok f=>
  obtain⟨m,hn,hr⟩:=hr
  exact qA2 (wpAny_holding (wpAny_comp_letGo (cenv:= {cenv with scope:=relabel scope env}) hkind _ s' m hv hn λh' m' _ hs'=>qA8 (hr h' hs')))
 |error x=>
  obtain⟨m,hn,hr⟩:=hr
  exact qA2 (wpAny_holding (wpAny_comp_letGo (cenv:= {cenv with scope:=relabel scope env}) hkind _ s' m hv hn λh' m' _ hs'=>C_of (wpAny_mono (hr h' hs' _ rfl) (λ_ _ f=>f.elim) λ_ _ y=>y)))
end
section
variable {R:Result→Shared→Prop}{env:Env}
theorem C_Expr{e pos}{Q:Flow→Shared→Prop}(h:wpC (model pw w) A (eval e env) (λ_=>Q .next) E s)(hi:interactive env=false)(hs:swapsWith e none pos.line env=pure false):wpC (model pw w) A (exec (.Expr e pos) env) Q E s:=by
 rw[exec_Expr env e pos hi hs]
 exact qAC (qA7 (qA6 h (λv s' h'=>C_of (wpAny_dropValue h')) λ_ _ z=>z))
theorem qDo{test body orelse env}(I:Nat→Shared→Prop)
  (turn:∀n s,I n s→
   wpC (model pw w) A (isTrue test env (eval test env)) (λb s₂=>
    if b then wpC (model pw w) A (execs body env) (λf s₃=>match f with
      | .next| .cont=>∃m,m < n∧I m s₃
      | .brk=>R (.ok .next) s₃
      | .ret v=>R (.ok (.ret v)) s₃) (notedBy (model pw w) A env λe s'=>R (.error e) s') s₂
    else wpC (model pw w) A (execs orelse env) (λf s₃=>R (.ok f) s₃) (notedBy (model pw w) A env λe s'=>R (.error e) s') s₂)
    (notedBy (model pw w) A env λe s'=>R (.error e) s') s)
  (n:Nat)(h:I n s):qAn (model pw w) A (.whileLoop test body orelse env) R s:=by
 refine qCp rfl rfl I (λn s hI=>?_) n h
 show wpC _ A ((whileTurn test body orelse env).onRaise (λx=>do noteFrame x env;theTreesLotGoes x)) _ _ s
 refine qFJ ?_
 simp only[whileTurn]
 refine qA7 (qA6 (turn n s hI) (λb s₂ h₂=>?_) λ_ _ h'=>h')
 cases b with
 |false=>
  simp only[Bool.false_eq_true,if_false]at h₂ ⊢
  exact qA7 (qA6 h₂ (λf s₃ h₃=>qA8 h₃) λ_ _ h'=>h')
 |true=>
  simp only[if_true]at h₂ ⊢
  refine qA7 (qA6 h₂ (λf s₃ h₃=>?_) λ_ _ h'=>h')
  cases f with
  |next=>exact qA8 (.inl ⟨rfl,h₃⟩)
  |cont=>exact qA8 (.inl ⟨rfl,h₃⟩)
  |brk=>exact qA8 h₃
  |ret v=>exact qA8 h₃
theorem qGq{stmts:List Stmt}{env:Env}(h:wpC (model pw w) A (execs stmts env) (λf s'=>R (.ok f) s') (notedBy (model pw w) A env λe s'=>R (.error e) s') s):qAn (model pw w) A (.block stmts env) R s:=by
 refine qAh rfl ?_
 show wpC _ _ (do return Fin.done (←(execs stmts env).onRaise (λx=>do noteFrame x env;theTreesLotGoes x))) _ _ s
 exact qA7 (qFJ (qA6 h (λf s' h'=>qA8 h') λ_ _ h'=>h'))
theorem qF8{target it body orelse env}(I:Nat→Shared→Prop)
  (turn:∀n s,I n s→wpAny (model pw w) A (pyNext it) (λr s₁=>match r with
   |none=>wpC (model pw w) A (execs orelse env) (λf s₃=>R (.ok f) s₃) (notedBy (model pw w) A env λe s'=>R (.error e) s') s₁
   |some v=>wpAny (model pw w) A (letOwnedTupleGo target it v) (λ_ s₁'=>
     wpAny (model pw w) A (assign target env v) (λ_ s₂=>wpC (model pw w) A (execs body env) (λf s₃=>match f with
      | .next| .cont=>∃m,m < n∧I m s₃
      | .brk=>R (.ok .next) s₃
      | .ret v=>R (.ok (.ret v)) s₃) (notedBy (model pw w) A env λe s'=>R (.error e) s') s₂) (notedBy (model pw w) A env λe s'=>R (.error e) s') s₁') (notedBy (model pw w) A env λe s'=>R (.error e) s') s₁) (notedBy (model pw w) A env λe s'=>R (.error e) s') s)
  (n:Nat)(h:I n s):qAn (model pw w) A (.forLoop target it body orelse env) R s:=by
 refine qCp rfl rfl I (λn s hI=>?_) n h
 show wpC _ A ((forTurn target it body orelse env).onRaise (λx=>do noteFrame x env;theTreesLotGoes x)) _ _ s
 refine qFJ ?_
 simp only[forTurn]
 refine qAC (qA2 (wpAny_onRaise (wpAny_mono (turn n s hI) (λr s₁ h₁=>?_) λ_ _ h'=>wpAny_standAt h')))
 cases r with
 |none=>exact qA8 (.inr ⟨rfl,qGq h₁⟩)
 |some v=>
  refine qA2 (wpAny_mono h₁ (λ_ s₁' h₁'=>?_) λ_ _ h'=>h')
  refine qA2 (wpAny_mono h₁' (λ_ s₂ h₂=>qA7 (qA6 h₂ (λf s₃ h₃=>?_) λ_ _ h'=>h')) λ_ _ h'=>h')
  cases f with
  |next=>exact qA8 (.inl ⟨rfl,h₃⟩)
  |cont=>exact qA8 (.inl ⟨rfl,h₃⟩)
  |brk=>exact qA8 h₃
  |ret v=>exact qA8 h₃
theorem qI2{body env}
  (h:wpC (model pw w) (A.deeper env) (execs body env) (λf s'=>R (.ok (.ret (match f with| .ret v=>v|_=>.none))) s')
   (λe s'=>wpAny (model pw w) (A.deeper env) (leaving env e) (λ_ s''=>R (.error e) s'') (λe' s''=>R (.error e') s'') s') s):qAn (model pw w) A (.func body env) R s:=by
 refine qAh rfl ?_
 show wpC _ (A.deeper env) (do point;match ←(execs body env).onRaise (leaving env)with| .ret v=>ret v|_=>ret .none) _ _ s
 refine qA2 (wpAny_point (qA7 (qCa (qA6 h (λf s' h'=>?_) λ_ _ h'=>h'))))
 cases f <;> exact qA8 h'
theorem qCL{args:Args}{fd:FuncData}{body:List Stmt}(hroom:A.depth < recursionLimit)
  (ho:s.heap.get? a=some o)
  (hd':o.data= .func fd)(hco:fd.scope.isCoroutine=false)(hgen:fd.scope.isGenerator=false)(hbody:fd.body= .stmts body)(hcd:s.heap.CodeRec fd.code fd.qualname)
  (h:wpAny (model pw w) A.in1 (bindArgs fd args) (λbinds s₁=>
   wpAny (model pw w) A.in1 (newFunctionEnv fd.scope fd.globals fd.closure binds (fd.qualname++".<locals>.") (some a) fd.code none fd.builtins)
    (λenv s₂=>s₂.heap.NoLimit∧qAn (model pw w) A (.func body env) R s₂) (λe s'=>R (.error e) s') s₁) (λe s'=>R (.error e) s') s):
  qAn (model pw w) A (.call (.ref a) args) R s:=by
 refine qAh rfl ?_
 show wpC _ A.in1 (callAny (.ref a) args) _ _ s
 refine qA2 (wpAny_load ho ?_)
 obtain⟨c,oc,vs,tq,hc,hoc,hdc,hq⟩:=hcd
 rw[hc]at h
 rw[hd']
 show wpC _ A.in1 (callFunction _ _ _) _ _ s
 unfold callFunction
 rw[hco,hgen,hbody,hc]
 refine qA2 (m:=field (.ref c) 1) (wpAny_field hoc hdc hq (qA7 (qA8 ?_)))
 exact qA2 (wpAny_mono h (λbinds s₁ h₁=>qA2 (wpAny_mono h₁ (λenv s₂ h₂=>qA2 (wpAny_enterFrame h₂.1 hroom (qA8 (And.intro rfl h₂.2)))) λ_ _ h'=>h')) λ_ _ h'=>h')
theorem qDp{elt target iter ifs rest scope pos it acc env}
  (h0:qAn (model pw w) A (.compLoop (.ListComp elt (⟨target,iter,ifs,0⟩::rest) scope pos) 0 it acc env) R s)
  (h:wpAny (model pw w) A (pyIter it) (λit' s'=>qAn (model pw w) A (.compLoop (.ListComp elt (⟨target,iter,ifs,0⟩::rest) scope pos) 0 it' acc env) R s')
   (notedBy (model pw w) A env λx s'=>R (.error x) s') s):
  qAn (model pw w) A (.compStart (.ListComp elt (⟨target,iter,ifs,0⟩::rest) scope pos) 0 it acc env) R s:=by
 refine qAh rfl ?_
 show wpC _ _ ((compStart (.ListComp elt (⟨target,iter,ifs,0⟩::rest) scope pos) 0 it acc env).onRaise (λx=>do noteFrame x env;standAt theWindowsPlace)) _ _ s
 refine qJj ?_
 refine qA2 (wpAny_askSetting ?_)
 split
 ·first
   |exact qA7 (qA8 (qA8 (And.intro rfl h0)))
   |exact qA8 (And.intro rfl h0)
 ·first
   |exact qA2 (wpAny_rule (qAC (qA2 (wpAny_mono h (λit' s' h'=>qA8 (And.intro rfl h')) λ_ _ x=>x))))
   |(refine qA2 (wpAny_rule ?_);show wpC _ _ (standAt iter.pos >>=_) _ _ s;exact qAC (qA2 (wpAny_mono h (λit' s' h'=>qA8 (And.intro rfl h')) λ_ _ x=>x)))
theorem qEC{target iter:Expr}{scope:Scope}{it acc:Value}{env:Env}(I:Nat→Shared→Prop)
  (turn:∀n s,I n s→wpAny (model pw w) A (pyNext it) (λr s₁=>match r with
   |none=>R (.ok .next) s₁
   |some v=>wpAny (model pw w) A (letOwnedTupleGo target it v) (λ_ s₁'=>wpAny (model pw w) A (assign target env v) (λ_ s₂=>
     wpC (model pw w) A (eval elt env) (λx s₄=>wpAny (model pw w) A (call (.builtin "list.append") [acc,x]) (λ_ s₅=>∃m,m < n∧I m s₅) (λ_ _=>False) s₄) (λ_ _=>False) s₂) (λ_ _=>False) s₁') (λ_ _=>False) s₁) (λ_ _=>False) s)
  (n:Nat)(h:I n s):qAn (model pw w) A (.compLoop (.ListComp elt [⟨target,iter,[],0⟩] scope pos) 0 it acc env) R s:=by
 refine qCp rfl rfl I (λn s hI=>?_) n h
 show wpC _ A ((compTurn (.ListComp elt [⟨target,iter,[],0⟩] scope pos) 0 it acc env).onRaise (λx=>do noteFrame x env;theTreesLotGoes x)) _ _ s
 refine qFJ ?_
 rw[compTurn_list]
 refine qAC (qA2 (wpAny_mono (turn n s hI) (λr s₁ h₁=>?_) λ_ _ h'=>h'.elim))
 cases r with
 |none=>exact qA8 h₁
 |some v=>
  refine qA2 (wpAny_mono h₁ (λ_ s₁' h₁'=>?_) λ_ _ h'=>h'.elim)
  refine qA2 (wpAny_mono h₁' (λ_ s₂ h₂=>?_) λ_ _ h'=>h'.elim)
  refine qA2 (wpAny_pure (qA7 ?_))
  exact qA7 (qA6 h₂ (λx s₄ h₄=>qA2 (wpAny_mono h₄ (λ_ s₅ h₅=>qA8 (qA8 (.inl ⟨rfl,h₅⟩))) λ_ _ h'=>h'.elim)) λ_ _ h'=>h'.elim)
end
end
def WEc.Ar(c:Cx)(e:Expr)(ρ:Ro)(σ:Sg)(Q:D→Sg→Prop)(X:Addr→Sg→Prop):Prop:=∀g R own s,St c g R ρ σ own s→wpC (model pw c.w) c.A (eval e c.env) (PE c g R ρ own Q) (PX c g R ρ own X) s
@[irreducible] def WEc (c:Cx) (e:Expr) (ρ:Ro) (σ:Sg) (Q:D→Sg→Prop) (X:Addr→Sg→Prop):Prop:=WEc.Ar c e ρ σ Q X
theorem WEc.mk(h:WEc.Ar c e ρ σ Q X):WEc c e ρ σ Q X:=by delta WEc;exact h
theorem WEc.go(h:WEc c e ρ σ Q X):WEc.Ar c e ρ σ Q X:=by delta WEc at h;exact h
def WBc.Ar(c:Cx)(e:Expr)(ρ:Ro)(σ:Sg)(Q:Bool→Sg→Prop)(X:Addr→Sg→Prop):Prop:=∀g R own s,St c g R ρ σ own s→wpC (model pw c.w) c.A (isTrue e c.env (eval e c.env)) (PB c g R ρ own Q) (PX c g R ρ own X) s
@[irreducible] def WBc (c:Cx) (e:Expr) (ρ:Ro) (σ:Sg) (Q:Bool→Sg→Prop) (X:Addr→Sg→Prop):Prop:=WBc.Ar c e ρ σ Q X
theorem WBc.mk{Q:Bool→Sg→Prop}(h:WBc.Ar c e ρ σ Q X):WBc c e ρ σ Q X:=by delta WBc;exact h
theorem WBc.go{Q:Bool→Sg→Prop}(h:WBc c e ρ σ Q X):WBc.Ar c e ρ σ Q X:=by delta WBc at h;exact h
def WEsc.Ar(c:Cx)(pos:Pos)(es:List Expr)(ρ:Ro)(σ:Sg)(Q:List D→Sg→Prop)(X:Addr→Sg→Prop):Prop:=∀g R own s,St c g R ρ σ own s→wpC (model pw c.w) c.A (spliced (backTo pos (starEach es c.env))) (PEs c g R ρ own Q) (PX c g R ρ own X) s
@[irreducible] def WEsc (c:Cx) (pos:Pos) (es:List Expr) (ρ:Ro) (σ:Sg) (Q:List D→Sg→Prop) (X:Addr→Sg→Prop):Prop:=WEsc.Ar c pos es ρ σ Q X
theorem WEsc.mk{Q:List D→Sg→Prop}(h:WEsc.Ar c pos es ρ σ Q X):WEsc c pos es ρ σ Q X:=by delta WEsc;exact h
theorem WEsc.go{Q:List D→Sg→Prop}(h:WEsc c pos es ρ σ Q X):WEsc.Ar c pos es ρ σ Q X:=by delta WEsc at h;exact h
def STc.Ar(c:Cx)(st:Stmt)(ρ:Ro)(σ:Sg)(N:Ro→Sg→Prop)(Rt:D→Sg→Prop)(X:Ro→Addr→Sg→Prop):Prop:=∀g R own s,St c g R ρ σ own s→wpC (model pw c.w) c.A (exec st c.env) (PF c g R N Rt) (PXs c g R X) s
@[irreducible] def STc (c:Cx) (st:Stmt) (ρ:Ro) (σ:Sg) (N:Ro→Sg→Prop) (Rt:D→Sg→Prop) (X:Ro→Addr→Sg→Prop):Prop:=STc.Ar c st ρ σ N Rt X
theorem STc.mk{st:Stmt}{X:Ro→Addr→Sg→Prop}(h:STc.Ar c st ρ σ N Rt X):STc c st ρ σ N Rt X:=by delta STc;exact h
theorem STc.go{st:Stmt}{X:Ro→Addr→Sg→Prop}(h:STc c st ρ σ N Rt X):STc.Ar c st ρ σ N Rt X:=by delta STc at h;exact h
def STsc.Ar(c:Cx)(b:List Stmt)(ρ:Ro)(σ:Sg)(N:Ro→Sg→Prop)(Rt:D→Sg→Prop)(X:Ro→Addr→Sg→Prop):Prop:=∀g R own s,St c g R ρ σ own s→wpC (model pw c.w) c.A (execs b c.env) (PF c g R N Rt) (PXs c g R X) s
@[irreducible] def STsc (c:Cx) (b:List Stmt) (ρ:Ro) (σ:Sg) (N:Ro→Sg→Prop) (Rt:D→Sg→Prop) (X:Ro→Addr→Sg→Prop):Prop:=STsc.Ar c b ρ σ N Rt X
theorem STsc.mk{b:List Stmt}{X:Ro→Addr→Sg→Prop}(h:STsc.Ar c b ρ σ N Rt X):STsc c b ρ σ N Rt X:=by delta STsc;exact h
theorem STsc.go{b:List Stmt}{X:Ro→Addr→Sg→Prop}(h:STsc c b ρ σ N Rt X):STsc.Ar c b ρ σ N Rt X:=by delta STsc at h;exact h
def OCc.Ar(c:Cx)(f:D)(as:List D)(ρ:Ro)(σ:Sg)(Q:D→Sg→Prop)(X:Addr→Sg→Prop):Prop:=∀g R own s vf vs,St c g R ρ σ own s→DV g f vf→DVs g as vs→wpC (model pw c.w) c.A (call vf vs) (PE c g R ρ own Q) (PX c g R ρ own X) s
@[irreducible] def OCc (c:Cx) (f:D) (as:List D) (ρ:Ro) (σ:Sg) (Q:D→Sg→Prop) (X:Addr→Sg→Prop):Prop:=OCc.Ar c f as ρ σ Q X
theorem OCc.mk{f:D}(h:OCc.Ar c f as ρ σ Q X):OCc c f as ρ σ Q X:=by delta OCc;exact h
theorem OCc.go{f:D}(h:OCc c f as ρ σ Q X):OCc.Ar c f as ρ σ Q X:=by delta OCc at h;exact h
section
variable(c:Cx)(X:Addr→Sg→Prop)(Rt:D→Sg→Prop)(Y:Ro→Addr→Sg→Prop)(ρ:Ro)(N:Ro→Sg→Prop)(f:Value→Value→Sem Value)(p:Pos)(d d1:D)(ds:List D)(x:Str)(e r a b:Expr)(es:List Expr)(as bs:List Stmt)(Q:D→Sg→Prop)(B:Bool→Sg→Prop)(L:List D→Sg→Prop)
abbrev kE2c:D→Sg→Prop:=λd τ=>WEc c r ρ τ (kO2 c X ρ f d Q) X
abbrev kIfEc:Bool→Sg→Prop:=λv τ=>if v then WEc c a ρ τ Q X else WEc c b ρ τ Q X
abbrev kArgc:D→Sg→Prop:=λd τ=>WEsc c p es ρ τ (kCons d L) X
abbrev kOCc:List D→Sg→Prop:=λds τ=>OCc c d ds ρ τ Q X
abbrev kOCmc:List D→Sg→Prop:=λes τ=>OCc c d (ds++es) ρ τ Q X
abbrev kSeqc:Ro→Sg→Prop:=λρ τ=>STsc c bs ρ τ N Rt Y
abbrev kIfc:Bool→Sg→Prop:=λv τ=>if v then STsc c as ρ τ N Rt Y else STsc c bs ρ τ N Rt Y
end
def CallPc.Ar(Z:Prop)(c:Cx)(X:Addr→Sg→Prop)(ρ:Ro)(p:Pos)(es:List Expr)(Q:D→Sg→Prop)(fd:D)(τ:Sg):Prop:=∀(kp:Kept c fd) (h:WEsc c p es ρ τ (kOCc c X ρ fd Q) X),Z
@[irreducible] def CallPc (c:Cx) (X:Addr→Sg→Prop) (ρ:Ro) (p:Pos) (es:List Expr) (Q:D→Sg→Prop) (fd:D) (τ:Sg):Prop:=∀Z,CallPc.Ar Z c X ρ p es Q fd τ→Z
theorem CallPc.mk{fd:D}:CallPc.Ar (CallPc c X ρ p es Q fd τ) c X ρ p es Q fd τ:=by delta CallPc;exact λkp h _ k=>k kp h
theorem CallPc.el{fd:D}(hh:CallPc c X ρ p es Q fd τ):CallPc.Ar Z c X ρ p es Q fd τ→Z:=by delta CallPc at hh;exact hh Z
def Call0Pc.Ar(Z:Prop)(c:Cx)(X:Addr→Sg→Prop)(ρ:Ro)(Q:D→Sg→Prop)(fd:D)(τ:Sg):Prop:=∀(kp:Kept c fd) (h:OCc c fd [] ρ τ Q X),Z
@[irreducible] def Call0Pc (c:Cx) (X:Addr→Sg→Prop) (ρ:Ro) (Q:D→Sg→Prop) (fd:D) (τ:Sg):Prop:=∀Z,Call0Pc.Ar Z c X ρ Q fd τ→Z
theorem Call0Pc.mk{fd:D}:Call0Pc.Ar (Call0Pc c X ρ Q fd τ) c X ρ Q fd τ:=by delta Call0Pc;exact λkp h _ k=>k kp h
theorem Call0Pc.el{fd:D}(hh:Call0Pc c X ρ Q fd τ):Call0Pc.Ar Z c X ρ Q fd τ→Z:=by delta Call0Pc at hh;exact hh Z
def MethPc.Ar(Z:Prop)(c:Cx)(X:Addr→Sg→Prop)(ρ:Ro)(name:Str)(p:Pos)(es:List Expr)(Q:D→Sg→Prop)(d:D)(τ:Sg):Prop:=∀(fd:D) (first:List D) (gm:GM c d name ρ τ fd first) (kp:Kept c fd) (h:WEsc c p es ρ τ (kOCmc c X ρ fd first Q) X),Z
@[irreducible] def MethPc (c:Cx) (X:Addr→Sg→Prop) (ρ:Ro) (name:Str) (p:Pos) (es:List Expr) (Q:D→Sg→Prop) (d:D) (τ:Sg):Prop:=∀Z,MethPc.Ar Z c X ρ name p es Q d τ→Z
theorem MethPc.mk{name:Str}:MethPc.Ar (MethPc c X ρ name p es Q d τ) c X ρ name p es Q d τ:=by delta MethPc;exact λfd first gm kp h _ k=>k fd first gm kp h
theorem MethPc.el{name:Str}(hh:MethPc c X ρ name p es Q d τ):MethPc.Ar Z c X ρ name p es Q d τ→Z:=by delta MethPc at hh;exact hh Z
section
variable {a b:Expr}{as bs:List Stmt}{Y:Ro→Addr→Sg→Prop}{v:Bool}
theorem kIfc_t(e:true=v)(h:STsc c as ρ σ N Rt Y):kIfc c Rt Y ρ N as bs v σ:=by subst e;exact h
theorem kIfc_f(e:false=v)(h:STsc c bs ρ σ N Rt Y):kIfc c Rt Y ρ N as bs v σ:=by subst e;exact h
end
section
theorem WE.lift(h:WE c e ρ σ Q X):WEc c e ρ σ Q X:=.mk λg R own s S=>C_of (h.go g R own s S)
theorem WB.lift{Q:Bool→Sg→Prop}(h:WB c e ρ σ Q X):WBc c e ρ σ Q X:=.mk λg R own s S=>C_of (h.go g R own s S)
theorem WEs.lift{Q:List D→Sg→Prop}(h:WEs c pos es ρ σ Q X):WEsc c pos es ρ σ Q X:=.mk λg R own s S=>C_of (h.go g R own s S)
theorem ST.lift{st:Stmt}{X:Ro→Addr→Sg→Prop}(h:ST c st ρ σ N Rt X):STc c st ρ σ N Rt X:=.mk λg R own s S=>C_of (h.go g R own s S)
theorem STs.lift{b:List Stmt}{X:Ro→Addr→Sg→Prop}(h:STs c b ρ σ N Rt X):STsc c b ρ σ N Rt X:=.mk λg R own s S=>C_of (h.go g R own s S)
theorem OC.lift{f:D}(h:OC c f as ρ σ Q X):OCc c f as ρ σ Q X:=.mk λg R own s vf vs S dv dvs=>C_of (h.go g R own s vf vs S dv dvs)
theorem WEc.use(h:WEc c e ρ σ Q X)(S:St c g R ρ σ own s){P:Value→Shared→Prop}
  (k:∀g' d σ' v s',Le g g'→St c g' R ρ σ' own s'→DV g' d v→Q d σ'→P v s')(kx:∀ev s',PX c g R ρ own X ev s'→E ev s'):wpC (model pw c.w) c.A (eval e c.env) P E s:=
 qA6 (h.go g R own s S) (λv s' p9=>p9.el λg' d σ' l S' dv q=>k g' d σ' v s' l S' dv q) kx
theorem WBc.use{Q:Bool→Sg→Prop}(h:WBc c e ρ σ Q X)(S:St c g R ρ σ own s){P:Bool→Shared→Prop}
  (k:∀g' d σ' s',Le g g'→St c g' R ρ σ' own s'→Q d σ'→P d s')(kx:∀ev s',PX c g R ρ own X ev s'→E ev s'):wpC (model pw c.w) c.A (isTrue e c.env (eval e c.env)) P E s:=
 qA6 (h.go g R own s S) (λv s' p9=>p9.el λg' σ' l S' q=>k g' v σ' s' l S' q) kx
theorem WEsc.use{Q:List D→Sg→Prop}(h:WEsc c pos es ρ σ Q X)(S:St c g R ρ σ own s){P:List Value→Shared→Prop}
  (k:∀g' d σ' v s',Le g g'→St c g' R ρ σ' own s'→DVs g' d v→Q d σ'→P v s')(kx:∀ev s',PX c g R ρ own X ev s'→E ev s'):wpC (model pw c.w) c.A (spliced (backTo pos (starEach es c.env))) P E s:=
 qA6 (h.go g R own s S) (λv s' p9=>p9.el λg' d σ' l S' dv q=>k g' d σ' v s' l S' dv q) kx
theorem WEsc_nil{Q:List D→Sg→Prop}(h:Q [] σ):WEsc c pos [] ρ σ Q X:=(WEs_nil h).lift
theorem qJK{Q:List D→Sg→Prop}(h:WEc c e ρ σ (kArgc c X ρ pos es Q) X)(he:autoParam (false=qC6 e) auR):WEsc c pos (e::es) ρ σ Q X:=.mk λg R own s S=>by
 rw[qAy he]
 exact qJi (h.use S (λg1 d τ v s1 l S1 dv q=>q.use S1 (λg2 ds υ vs s2 l2 S2 dvs q2=>(.mk g2 (d::ds) υ (l.trans l2) S2 (.cons (dv.mono l2) dvs) q2)) λ_ _ x=>x.le l) λ_ _ x=>x)
theorem qJP{l r:Expr}{op:Operator}(h:WEc c l ρ σ (kE2c c X ρ (binaryOp op) r Q) X):WEc c (.BinOp l op r p) ρ σ Q X:=.mk λg R own s S=>
 C_BinOp (h.use S (λg1 a τ va s1 l1 S1 da q=>q.use S1 (λg2 b υ vb s2 l2 S2 db q2=>
  wpAny_mono (q2.go g2 R own s2 va vb S2 (da.mono l2) db) (λ_ _ p=>(p.le l2).le l1) λ_ _ p=>(p.le l2).le l1) λ_ _ x=>x.le l1) λ_ _ x=>x)
theorem qDy{l r:Expr}{op:CmpOp}(h:WEc c l ρ σ (λa τ=>WEc c r ρ τ (λb υ=>O2 c (compareOp op) a b ρ υ Q X) X) X)(hm:autoParam (false=behindInMarks op r) auR):
  WEc c (.Compare l [op] [r] p) ρ σ Q X:=.mk λg R own s S=>
 qIK (h.use S (λg1 a τ va s1 l1 S1 da q=>q.use S1 (λg2 b υ vb s2 l2 S2 db q2=>
  wpAny_mono (q2.go g2 R own s2 va vb S2 (da.mono l2) db) (λ_ _ p=>(p.le l2).le l1) λ_ _ p=>(p.le l2).le l1) λ_ _ x=>x.le l1) λ_ _ x=>x) hm.symm
theorem qDz{l r:Expr}{op:CmpOp}{Q:Bool→Sg→Prop}(h:WEc c l ρ σ (λa τ=>WEc c r ρ τ (λb υ=>O2 c (compareOp op) a b ρ υ (λd φ=>OT c d ρ φ Q X) X) X) X)(hm:autoParam (false=behindInMarks op r) auR):
  WBc c (.Compare l [op] [r] p) ρ σ Q X:=.mk λg R own s S=>
 qCu (h.use S (λg1 a τ va s1 l1 S1 da q=>q.use S1 (λg2 b υ vb s2 l2 S2 db q2=>
  wpAny_mono (q2.go g2 R own s2 va vb S2 (da.mono l2) db) (λv s3 p9=>p9.el λg3 d φ l3 S3 dv q3=>
   wpAny_mono (q3.go g3 R own s3 v S3 dv) (λ_ _ p=>((p.le l3).le l2).le l1) λ_ _ p=>((p.le l3).le l2).le l1) λ_ _ p=>(p.le l2).le l1) λ_ _ x=>x.le l1) λ_ _ x=>x) hm.symm
theorem WBc_Or{Q:Bool→Sg→Prop}(h:WBc c e ρ σ (λb τ=>if b then Q true τ else WA c .Or es ρ τ Q X) X):WBc c (.BoolOp .Or (e::es) p) ρ σ Q X:=.mk λg R own s S=>
 qH4 (h.use S (λg1 b τ s1 l1 S1 q=>by
  cases b
  ·exact wpAny_mono (q.go g1 R own s1 S1) (λ_ _ p=>p.le l1) λ_ _ p=>p.le l1
  ·exact(.mk g1 τ l1 S1 q)) λ_ _ x=>x)
theorem qJM{t a b:Expr}(h:WBc c t ρ σ (kIfEc c X ρ a b Q) X):WEc c (.IfExp t a b p) ρ σ Q X:=.mk λg R own s S=>
 C_IfExp (h.use S (λg1 x τ s1 l1 S1 q=>by
  cases x
  ·exact qA6 (q.go g1 R own s1 S1) (λ_ _ p=>p.le l1) λ_ _ p=>p.le l1
  ·exact qA6 (q.go g1 R own s1 S1) (λ_ _ p=>p.le l1) λ_ _ p=>p.le l1) λ_ _ x=>x)
theorem qJL(h:WEsc c p es ρ σ (TupP Q) X):WEc c (.Tuple es k p) ρ σ Q X:=.mk λg R own s S=>
 C_Tuple (h.use S (λg1 ds τ vs s1 l1 S1 dvs o1'=>o1'.el λhz q=>by
  obtain⟨g2,l2,S2,e⟩:=S1.newObj (o:= {cls:=.type "tuple",data:=.seq vs.toArray}) rfl
  exact⟨by rw[dvs.length];exact hz,.mk g2 _ τ (l1.trans l2) S2 (.tup (y13 _ e rfl ⟨_,rfl⟩) (dvs.mono l2)) q⟩) λ_ _ x=>x)
theorem WEc_Call{fn:Expr}{rest:List Expr}(h:WEc c fn ρ σ (CallPc c X ρ p (e::rest) Q) X)(hk:autoParam (true=qDr fn (e::rest)) auR):WEc c (.Call fn (e::rest) [] p) ρ σ Q X:=.mk λg R own s S=>
 C_Call (h.use S (λg1 fd τ v s1 l1 S1 dv o2'=>o2'.el λkp q=>by
  have hw:=q.use (P:=λvs s2=>Kp (model pw c.w) s2.heap v∧wpC (model pw c.w) c.A (call v ([]++vs)) (PE c g R ρ own Q) (PX c g R ρ own X) s2) (E:=PX c g R ρ own X) S1
   (λg2 ds υ vs s2 l2 S2 dvs q2=>⟨kp g2 s2.heap v S2.wd (dv.mono l2) S2.rel.keep,qA6 (q2.go g2 R own s2 v vs S2 (dv.mono l2) dvs) (λ_ _ x=>(x.le l2).le l1) λ_ _ x=>(x.le l2).le l1⟩) λ_ _ x=>x.le l1
  rw[qAy (qBi hk).1]at hw ⊢
  exact qCv (P:=λh=>Kp (model pw c.w) h v) (by show(false || (backTo p (starEach rest c.env)).any (·.1))=false;rw[qCN (qBi hk).2];rfl) (λh x=>x) (qEY hw)) λ_ _ x=>x) (qBj hk)
theorem qJO{fn:Expr}(h:WEc c fn ρ σ (Call0Pc c X ρ Q) X)(hk:autoParam (true=qDr fn []) auR):WEc c (.Call fn [] [] p) ρ σ Q X:=.mk λg R own s S=>
 C_Call (h.use S (λg1 fd τ v s1 l1 S1 dv o3'=>o3'.el λkp q=>
  qCv (P:=λh=>Kp (model pw c.w) h v) rfl (λh x=>x) (C_of (evalArgs_nil3 ⟨kp g1 s1.heap v S1.wd dv S1.rel.keep,qA6 (q.go g1 R own s1 v [] S1 dv .nil) (λ_ _ x=>x.le l1) λ_ _ x=>x.le l1⟩))) λ_ _ x=>x) (qBj hk)
theorem WEc_Meth{o:Expr}{name:Str}{apos:Pos}{rest:List Expr}{pl:Sem Bool}
  (h:WEc c o ρ σ (MethPc c X ρ name p (e::rest) Q) X)
  (hc:autoParam (eval (.Call (.Attribute o name apos) (e::rest) [] p) c.env=(do
   let ov ←eval o c.env
   standAt apos.atName
   let(f,first) ←holding [ov] (getMethod ov name pl)
   callWith p f first (backTo p (starEach (e::rest) c.env)) [])) auR)
  (he:autoParam (false=qC6 e) auR)(hp:autoParam (false=rest.any qC6) auR):WEc c (.Call (.Attribute o name apos) (e::rest) [] p) ρ σ Q X:=.mk λg R own s S=>
 qGO (h.use S (λg1 d τ v s1 l1 S1 dv o4'=>o4'.el λfd first gm kp q=>wpAny_mono (gm.go g1 R own s1 v pl S1 dv) (λfx s2 o5'=>o5'.el λg2 l2 S2 df dfs=>by
  have hw:=q.use (P:=λvs s3=>Kp (model pw c.w) s3.heap fx.1∧wpC (model pw c.w) c.A (call fx.1 (fx.2++vs)) (PE c g R ρ own Q) (PX c g R ρ own X) s3) (E:=PX c g R ρ own X) S2
   (λg3 ds υ vs s3 l3 S3 dvs q3=>⟨kp g3 s3.heap fx.1 S3.wd (df.mono l3) S3.rel.keep,qA6 (q3.go g3 R own s3 fx.1 (fx.2++vs) S3 (df.mono l3) ((dfs.mono l3).append dvs)) (λ_ _ x=>((x.le l3).le l2).le l1) λ_ _ x=>((x.le l3).le l2).le l1⟩) λ_ _ x=>(x.le l2).le l1
  rw[qAy he]at hw ⊢
  exact qCv (P:=λh=>Kp (model pw c.w) h fx.1) (by show(false || (backTo p (starEach rest c.env)).any (·.1))=false;rw[qCN hp];rfl) (λh x=>x) (qEY hw)) λ_ _ x=>x.elim) λ_ _ x=>x) hc
end
section
variable {X:Ro→Addr→Sg→Prop}
theorem STsc_nil(h:N ρ σ):STsc c [] ρ σ N Rt X:=(STs_nil h).lift
theorem qJT{st:Stmt}{rest:List Stmt}(h:STc c st ρ σ (kSeqc c Rt X N rest) Rt X):STsc c (st::rest) ρ σ N Rt X:=.mk λg R own s S=>
 qGK (qA6 (h.go g R own s S) (λfl s1 p=>by
  cases fl with
  |next=>
   obtain⟨g1,own1,ρ1,σ1,l1,S1,q⟩:=p
   exact qA6 (q.go g1 R own1 s1 S1) (λ_ _ p=>PF.le l1 p) λ_ _ p=>PXs.le l1 p
  |ret v=>exact p
  |brk=>exact p
  |cont=>exact p) λ_ _ x=>x)
theorem qCs(h:WEc c e ρ σ Rt (X ρ)):STc c (.Return (some e) p) ρ σ N Rt X:=.mk λg R own s S=>
 C_Return (qA6 (h.go g R own s S) (λv s1 p9=>p9.el λg1 d σ1 l1 S1 dv q=>(.mk g1 own ρ σ1 d l1 S1 dv q)) λ_ _ x=>x.toS)
theorem qHT(h:WEc c e ρ σ (kDrop ρ N) (X ρ))(hi:autoParam (false=interactive c.env) auR)(hs:autoParam (pure false=swapsWith e none p.line c.env) auR):STc c (.Expr e p) ρ σ N Rt X:=.mk λg R own s S=>
 C_Expr (qA6 (h.go g R own s S) (λv s1 p9=>p9.el λg1 d σ1 l1 S1 dv q=>(.mk g1 own ρ σ1 l1 S1 q)) λ_ _ x=>x.toS) hi.symm hs.symm
theorem STc_If{t:Expr}{a b:List Stmt}(h:WBc c t ρ σ (kIfc c Rt X ρ N a b) (X ρ)):STc c (.If t a b p) ρ σ N Rt X:=.mk λg R own s S=>
 C_If (qA6 (h.go g R own s S) (λv s1 p9=>p9.el λg1 σ1 l1 S1 q=>by
  cases v
  ·exact qA6 (q.go g1 R own s1 S1) (λ_ _ p=>PF.le l1 p) λ_ _ p=>PXs.le l1 p
  ·exact qA6 (q.go g1 R own s1 S1) (λ_ _ p=>PF.le l1 p) λ_ _ p=>PXs.le l1 p) λ_ _ x=>x.toS)
theorem qEU{p':Pos}(hx:nm c x)(h:WEc c e ρ σ (kSet ρ N x) (X ρ))(hs:autoParam (pure false=swapsWith e (some (.Name x p')) p.line c.env) auR):STc c (.Assign [.Name x p'] e p) ρ σ N Rt X:=.mk λg R own s S=>
 qFL (qA6 (h.go g R own s S) (λv s1 p9=>p9.el λg1 d σ1 l1 S1 dv q=>qAu S1 hx dv λown' s' S'=>(.mk g1 own' _ σ1 l1 S' q)) λ_ _ x=>x.toS) hs
abbrev kWhlc(c:Cx)(b:List Stmt)(ρ:Ro)(n:Nat)(I:Nat→Ro→Sg→Prop)(N:Ro→Sg→Prop)(Rt:D→Sg→Prop)(X:Ro→Addr→Sg→Prop):Bool→Sg→Prop:=λv τ=>if v then STsc c b ρ τ (kDown n I) Rt X else N ρ τ
theorem qIl{b:List Stmt}{I:Nat→Ro→Sg→Prop}{v:Bool}(e:true=v)(h:STsc c b ρ σ (kDown n I) Rt X):kWhlc c b ρ n I N Rt X v σ:=by subst e;exact h
theorem qIm{b:List Stmt}{I:Nat→Ro→Sg→Prop}{v:Bool}(e:false=v)(h:N ρ σ):kWhlc c b ρ n I N Rt X v σ:=by subst e;exact h
theorem qJU{t:Expr}{b:List Stmt}(ht:c.top=true)(I:Nat→Ro→Sg→Prop)(n:Nat)(h0:I n ρ σ)
  (h:∀n ρ1 σ1,I n ρ1 σ1→WBc c t ρ1 σ1 (kWhlc c b ρ1 n I N Rt X) (X ρ1)):STc c (.While t b [] p) ρ σ N Rt X:=.mk λg R own s S=>by
 refine C_While (qDo (λn s'=>∃g1 own1 ρ1 σ1,Le g g1∧St c g1 R ρ1 σ1 own1 s'∧I n ρ1 σ1) (λn s1 o6'=>x4_3 o6' λg1 own1 ρ1 σ1 l1 S1 i1=>?_) n (y43 g own ρ σ (Le.refl g) S h0))
 have back:∀{g1 ρ' own' ev s'},Le g g1→PX c g1 R ρ' own' (X ρ') ev s'→notedBy (model pw c.w) c.A c.env (λe s'=>cameBackBy (model pw c.w) c.A c.env (PXs c g R X) e s') ev s':=λ{g1 ρ' own' ev s'} l x=>
  wpAny_mono (came ht x) (λ_ _ y=>wpAny_mono y (λ_ _ z=>(z.le l).toS) λ_ _ z=>(z.le l).toS) λ_ _ y=>wpAny_mono y (λ_ _ z=>(z.le l).toS) λ_ _ z=>(z.le l).toS
 refine qA6 ((h n ρ1 σ1 i1).go g1 R own1 s1 S1) (λv s2 o7'=>o7'.el λg2 σ2 l2 S2 q=>?_) λev s2 x=>back l1 x
 cases v
 ·exact C_of (wpAny_execs_nil (.mk g2 own1 ρ1 σ2 (l1.trans l2) S2 q))
 ·refine qA6 (q.go g2 R own1 s2 S2) (λfl s3 p=>?_) λev s3 o8'=>o8'.el λown3 ρ3 x=>back (l1.trans l2) x
  cases fl with
  |next=>exact p.el λg3 own3 ρ3 σ3 l3 S3 q=>x1_2 q λm hm i3=>(y12 m hm ⟨g3,own3,ρ3,σ3,(l1.trans l2).trans l3,S3,i3⟩)
  |ret v=>exact PF.le (l1.trans l2) p
  |brk=>exact p.elim
  |cont=>exact p.elim
theorem qGz{t it:Expr}{b:List Stmt}(ht:c.top=true){J:D→Sg→Prop}(hi:WEc c it ρ σ J (X ρ))
  (h:∀d τ,J d τ→FJ c ρ (λI i ρ1 d τ1=>AS c t d ρ1 τ1 (kSeqc c Rt X (I (i+1)) b) (λ_ _=>False)) N d τ)
  (hs:autoParam (∀x,pure x=foldedSetIterable it c.env x) auI):STc c (.For t it b [] p) ρ σ N Rt X:=.mk λg R own s S=>by
 refine C_For (qA6 (hi.go g R own s S) (λv s1 o9'=>o9'.el λg1 d τ l1 S1 dv j=>?_) λ_ _ x=>x.toS) hs
 obtain⟨ds,KS,src,I,i0,iK,step,fin⟩:=h d τ j
 refine wpAny_mono (src.go g1 R own s1 v S1 dv) (λitv s2 o10'=>x4_5 o10' λIt K g2 o2 e2 l2 IT k2 S2=>?_) λ_ _ x=>x.elim
 subst e2
 refine qF8 (FI c g R It ds.length I K) (λn s3 o6'=>o6'.el λi g3 own3 ρ3 σ3 o3 hn l3 S3 i3 k3=>?_)
  ds.length (.mk 0 g2 own ρ τ o2 rfl (l1.trans l2) S2 i0 k2)
 have hf3:∃vs,o3.data= .fields vs:=x2_2 (IT.fields i g3 o3 k3) λvs _ e _=>⟨vs,e⟩
 refine IT.next i g3 (own3++(It,o3)::R) σ3 o3 s3 _ _ S3.rel (iK i ρ3 σ3 i3) (List.mem_append_right _ List.mem_cons_self) k3 (qEo hn) (λd v h' o' tk hd dv k' ho' kb=>?_) λhi h' tk kb=>?_
 ·have S4:=S3.turnI (tk:=tk) hf3 ho' kb
  have hlt:=(List.getElem?_eq_some_iff.mp hd).1
  refine IT.go k' (s:= {s3 with heap:=h',toks:=tk}) ho' ?_
  have hf':∃vs,o'.data= .fields vs:=x2_2 (IT.fields _ g3 o' k') λvs _ e _=>⟨vs,e⟩
  refine wpAny_mono ((step i ρ3 σ3 d hd i3).go g3 ((It,o')::R) own3 _ v S4 dv) (λ_ s5 o12'=>o12'.el λg5 own5 ρ5 σ5 l5 S5 q=>?_) λev s5 x=>x.no
  refine qA6 (q.go g5 _ own5 s5 S5) (λfl s6 p=>?_) λev s6 o13'=>o13'.el λown6 ρ6 x=>qJB ht hf' (l3.trans l5) x
  cases fl with
  |next=>
   obtain⟨g6,own6,ρ6,σ6,l6,S6,i6⟩:=p
   exact(y12 (n - 1) (qB7 hn hlt).1 (.mk (i+1) g6 own6 ρ6 σ6 o' ((qB7 hn hlt).2) ((l3.trans l5).trans l6) S6 i6 (IT.mono _ _ _ _ (l5.trans l6) k')))
  |ret v=>
   obtain⟨g6,own6,ρ6,σ6,d6,l6,S6,dv6,r6⟩:=p
   exact(.mk g6 own6 ρ6 σ6 d6 ((l3.trans l5).trans l6) (S6.drop hf') dv6 r6)
  |brk=>exact p.elim
  |cont=>exact p.elim
 ·subst hi
  exact C_of (wpAny_execs_nil (.mk g3 own3 ρ3 σ3 l3 (S3.endI hf3 kb) (fin ρ3 σ3 i3)))
end
noncomputable def CALc(w:World)(os:OsState)(lv:Nat)(f:Value→Prop)(as:List D)(σ:Sg)(Q:D→Sg→Prop)(X:Addr→Sg→Prop):Prop:=
 ∀A fr g R s vf vs,Room A fr lv→FrOK fr R→Rel w g R σ s.heap→Wd w g→s.gens= #[]→s.os=os→f vf→DVs g as vs→qAn (model pw w) A (.call vf ⟨vs,[]⟩) (CallPost w os g R Q X) s
abbrev FNc(w:World)(os:OsState)(lv:Nat)(a:Addr)(as:List D)(σ:Sg)(Q:D→Sg→Prop)(X:Addr→Sg→Prop):Prop:=CALc w os lv (λv=>v= .ref a) as σ Q X
section
theorem St.callsC{f:Value}(S:St c g R ρ σ own s)(h:qAn (model pw c.w) c.A (.call f ⟨vs,[]⟩) (CallPost c.w c.os g (own++R) Q X) s):wpC (model pw c.w) c.A (call f vs) (PE c g R ρ own Q) (PX c g R ρ own X) s:=
 qEZ (qBZ h λr s' p=>by
  cases r with
  |error ev=>exact S.px p
  |ok fl=>cases fl with
   |ret v=>exact S.pe p
   |_=>exact p.elim)
theorem qAP(hb:c.bare=true)(hl:lv≤c.lv)(h:FNc c.w c.os lv a as σ Q X):OCc c (.obj a) as ρ σ Q X:=.mk λg R own s vf vs S dv dvs=>by
 refine dv.on λ_=>?_
 exact S.callsC (h c.A c.fr g (own++R) s _ vs (S.room hb hl) S.frs S.rel S.wd S.gens S.os rfl dvs)
end
theorem qJg{st:Stmt}{name qual:Str}{dV pm:Value}{cd:Addr}(ns:List Str)
  (hK:(KF w.params).lookup a=some (fnO st name qual dV pm cd))(hcd:(cd,qual)∈codeT)
  (hb:∀(g:Heap) (s:Shared) vs,Wd w g→Le g s.heap→DVs g as vs→∃as' vs',DVs g as' vs'∧BindsTo s (fdOf st name qual dV pm cd) ⟨vs,[]⟩ (ns.zip vs')∧
   ∀A fr L,STsc (cxOf (fdOf st name qual dV pm cd) a w os lv A fr L) (qBs st) (ns.zip as') σ (λ_ τ=>Q .none τ) Q (λ_=>X))
  (hnd:ns.Nodup:=by decide+kernel)(hkind:∀x∈ns,(qA3 st).names.lookup x=some .local∨(qA3 st).names.lookup x=some .cell:=by decide+kernel)
  (hcn:((cellsFrom 0 (qA3 st).names []).map (·.1)).Nodup:=by decide+kernel)
  (hk:autoParam (.function=(qA3 st).kind) auR)(hco:autoParam (false=(qA3 st).isCoroutine) auR)(hgen:autoParam (false=(qA3 st).isGenerator) auR):FNc w os (lv+1) a as σ Q X:=by
 intro A fr g R s vf vs rm fo rel wd hgs hos e dvs
 subst e
 obtain⟨as',vs',dvs',hbind,body⟩:=hb g s vs wd rel.keep dvs
 have wds:=wd.mono rel.keep
 refine qCL (fd:=fdOf st name qual dV pm cd) (Nat.lt_of_lt_of_le (Nat.lt_of_le_of_lt (Nat.le_add_right _ _) rm.hd) (by decide)) (wds.K _ _ hK) rfl hco.symm hgen.symm rfl (wds.code _ hcd) (hbind _ _ _ _ ?_)
 refine wpAny_newFunctionEnv_cells hk.symm (λx hx=>?_) λenv' he s1 x=>?_
 ·have hx':x.1∈ns:=qBc (List.mem_map_of_mem hx)
  exact(hkind _ hx').imp id λe=>⟨e,cellsFrom_some _ _ _ (.inl e)⟩
 subst he
 refine⟨wds.lim.keeps x.toInCall.keep,qI2 ?_⟩
 refine(St.callC (b:=true) (λ_=>rm.hh) rm.hf rm.hd rm.hu rm.gd fo rel wd hgs hos rfl rfl hk.symm hnd hkind hcn dvs' x).elim λown S=>?_
 exact qA6 ((body A fr s.heap.objs.size).go g R _ _ S) (λfl s2 p=>by cases fl <;> exact PF.leaves p) λev s2 p9=>p9.el λ_ _ p=>p.leaves rfl
section
variable {X:Ro→Addr→Sg→Prop}
theorem STc_Try{body:List Stmt}{b0:Stmt}{bs:List Stmt}{np hp:Pos}{T:Addr}(ht:c.top=true)(hT:T∈excL)(k:c.env.kindOf x=some .globalImplicit)(e:globV.lookup x=some (.ref T))
  (h:STsc c body ρ σ N Rt (λρ1 C τ=>C=T∧∀ea,STs (c.under ea) (b0::bs) ρ1 τ N Rt (λ_ _ _=>False)))(hd:autoParam (false=(x==("__debug__":Str))) auR):
  STc c (.Try body [.ExceptHandler (some (.Name x np)) none (b0::bs) hp] [] [] pos) ρ σ N Rt X:=.mk λg R own s S=>by
 refine C_Try (qA6 (h.go g R own s S) (λfl s1 p=>?_) λev s1 p1'=>p1'.el λown1 ρ1 p1'=>p1'.el λea C g1 σ1 e1 l1 S1 F p1'=>x0_2 p1' λe2 q=>?_)
 ·cases fl with
  |next=>exact wpAny_execs_nil p
  |ret v=>exact p
  |brk=>exact p
  |cont=>exact p
 subst e1 e2
 exact qH6 ht hT k e hd l1 S1 F q
end
def BodyPc.Ar(Z:Prop)(c:Cx)(elt:Expr)(ρ':Ro)(P:D→Sg→Prop)(ρ:Ro)(τ:Sg):Prop:=∀(hr:RSub ρ' ρ) (w:WEc c elt ρ τ P (λ_ _=>False)),Z
@[irreducible] def BodyPc (c:Cx) (elt:Expr) (ρ':Ro) (P:D→Sg→Prop) (ρ:Ro) (τ:Sg):Prop:=∀Z,BodyPc.Ar Z c elt ρ' P ρ τ→Z
theorem BodyPc.mk{P:D→Sg→Prop}:BodyPc.Ar (BodyPc c elt ρ' P ρ τ) c elt ρ' P ρ τ:=by delta BodyPc;exact λhr w _ k=>k hr w
theorem BodyPc.el{P:D→Sg→Prop}(h:BodyPc c elt ρ' P ρ τ):BodyPc.Ar Z c elt ρ' P ρ τ→Z:=by delta BodyPc at h;exact h Z
def CBodyc.Ar(c':Cx)(target elt:Expr)(ρ':Ro)(d:D)(τ:Sg)(P:D→Sg→Prop):Prop:=AS c' target d ρ' τ (BodyPc c' elt ρ' P) (λ_ _=>False)
@[irreducible] def CBodyc (c':Cx) (target elt:Expr) (ρ':Ro) (d:D) (τ:Sg) (P:D→Sg→Prop):Prop:=CBodyc.Ar c' target elt ρ' d τ P
theorem CBodyc.mk{c':Cx}{target:Expr}{P:D→Sg→Prop}(h:CBodyc.Ar c' target elt ρ' d τ P):CBodyc c' target elt ρ' d τ P:=by delta CBodyc;exact h
theorem CBodyc.go{c':Cx}{target:Expr}{P:D→Sg→Prop}(h:CBodyc c' target elt ρ' d τ P):CBodyc.Ar c' target elt ρ' d τ P:=by delta CBodyc at h;exact h
section
theorem qI1{target iter:Expr}{scope:Scope}{Q:Value→Shared→Prop}{J:D→Sg→Prop}{Fin:List D→Sg→Prop}
  (hclos:closureFor scope c.env=pure cl)(hcell:∀y∈scope.names,y.2≠.cell)(hkind:scope.kind= .function)(hnames:∀x∈scope.names,x.2= .local→scope.names.lookup x.1=some .local)(hcl:ClOk c cl)(hsub:CSub c scope cl ρ ρ')
  (hs:∀x,foldedSetIterable iter c.env x=pure x)
  (S:St c g R ρ σ own s)(hi:WE c iter ρ σ J X)(hX:∀ev s',PX c g R ρ own X ev s'→E ev s')
  (h:∀d τ,J d τ→CJ c ρ (λI i ys d τ1=>∀C,CBodyc (c.comp scope cl C) target elt ρ' d τ1 (λy τ2=>I (i+1) (ys++ [y]) τ2)) Fin d τ)
  (fin:∀g3 σ3 s3 C oC m D ws k ys,Le g g3→St c g3 ((C,oC)::R) ρ σ3 own s3→NsObj oC m→s3.heap.get? D=some (listOf ws k)→g3.get? D=none→Free (own++(C,oC)::R) σ3 D→DVs g3 ys ws.toList→Fin ys σ3→
   compPost (model pw c.w) c.A E none Q (.ref D) C (.ok .next) s3):
  wpC (model pw c.w) c.A (comprehension (.ListComp elt [⟨target,iter,[],0⟩] scope pos) scope c.env (firstIterPos [⟨target,iter,[],0⟩] pos) (newList []) false (eval iter c.env) none) Q E s:=by
 refine C_compr (g:=⟨target,iter,[],0⟩) (gs:=[]) rfl hs hclos hkind hnames (wpAny_mono (hi.go g R own s S) (λv s1 p1'=>p1'.el λg1 d τ l1 S1 dv j=>?_) hX)
 obtain⟨ds,KS,hz,src,Iv,i0,iK,step,fin'⟩:=h d τ j
 refine wpAny_mono (src.go g1 R own s1 v S1 dv) (λitv s2 o2'=>x4_5 o2' λIt K g2 o2 e2 l2 IT k2 S2=>?_) λ_ _ x=>x.elim
 subst e2
 refine wpAny_newObj_type (wpAny_newFunctionEnv hcell (by intro y hy;simp at hy) (λh1 hns1 hsb1=>?_) hkind)
 dsimp only at hns1 hsb1 ⊢
 obtain⟨hne,oC,S3⟩:=qJ0 (tk:=s2.toks+([]:List (Str × Value)).length) S2 hkind hcell hcl hsub rfl hns1 hsb1
 generalize Array.size (Heap.objs (Heap.push s2.heap _))=H at hns1 hsb1 hne S3 ⊢
 have loop:∀s3:Shared,s3= {s2 with heap:=h1,toks:=s2.toks+([]:List (Str × Value)).length}→qAn (model pw c.w) c.A (.compLoop (.ListComp elt [⟨target,iter,[],0⟩] scope pos) 0 (.ref It) (.ref s2.heap.objs.size) (compEnvC scope cl H c.env))
   (compPost (model pw c.w) c.A E none Q (.ref s2.heap.objs.size) H) s3:=by
  rintro s3 rfl
  refine qEC (CI (c.comp scope cl H) g2 (own++R) It s2.heap.objs.size ρ' ds.length Iv K)
   (λn s' o9'=>o9'.el λi ys ws k g3 σ3 own3 o3 hn hy l3 S3 dvs i3 k3=>?_) ds.length (.mk 0 [] (#[]) 0 g2 τ _ o2 rfl (Nat.le_refl _) (Le.refl g2) S3 .nil i0 k2)
  have hf3:∃vs,o3.data= .fields vs:=x2_2 (IT.fields i g3 o3 k3) λvs _ e _=>⟨vs,e⟩
  refine IT.next i g3 _ σ3 o3 s' _ _ S3.rel (iK i ys σ3 i3) (List.mem_append_right _ List.mem_cons_self) k3 (qEo hn) (λd v h' o' tk hd dv k' ho' kb=>?_) λhi' h' tk kb=>?_
  ·have S4:=S3.turnI (tk:=tk) hf3 ho' kb
   have hlt:=(List.getElem?_eq_some_iff.mp hd).1
   refine IT.go k' (s:= {s' with heap:=h',toks:=tk}) ho' ?_
   refine wpAny_mono ((step i ys σ3 d hd i3 H).go.go g3 _ own3 _ v S4 dv) (λ_ s5 p5'=>p5'.el λg5 own5 ρ5 σ5 l5 S5 p5'=>p5'.el λhr wt=>?_) λev s5 x=>x.no
   refine qA6 (wt.go g5 _ own5 s5 S5) (λy s7 o7'=>o7'.el λg7 dy σ7 l7 S7 dvy q7=>?_) λev s7 x=>x.no
   refine qHR S7 (dvs.mono (l5.trans l7)) (by omega) λh8 S8=>?_
   have kk:Le g3 g7:=l5.trans l7
   exact(y12 (n - 1) (qB7 hn hlt).1 (.mk (i+1) (ys++ [dy]) (ws.push y) (k+1) g7 σ7 own5 o' ((qB7 hn hlt).2) ((List.length_append (as:=ys) (bs:=[dy])).symm▸Nat.succ_le_succ hy) (l3.trans kk) (S8.sub hr) (by rw[Array.toList_push];exact(dvs.mono kk).append (.cons dvy .nil)) q7 (IT.mono _ _ _ _ kk k')))
  ·subst hi'
   have S5:=S3.endI (tk:=tk) hf3 kb
   exact qHQ S1 (l2.trans l3) S5 hne λoC5 m5 S6 hn5 hD hg hf=>fin g3 σ3 _ H oC5 m5 s2.heap.objs.size ws k ys ((l1.trans l2).trans l3) S6 hn5 hD hg hf dvs (fin' ys σ3 i3 (Nat.le_trans hy hz))
 exact qDp (loop _ rfl) (IT.self 0 g2 _ τ o2 _ _ _ S3.rel (iK 0 [] τ i0) (List.mem_append_right _ List.mem_cons_self) k2 (loop _ rfl))
noncomputable def COMPc(c:Cx)(target elt iter:Expr)(scope:Scope)(cl:List (Str × Addr))(ρ ρ':Ro)(σ:Sg)(X:Addr→Sg→Prop)(Fin:List D→Sg→Prop):Prop:=
 WE c iter ρ σ (λd τ=>CJ c ρ (λI i ys d τ1=>∀C,CBodyc (c.comp scope cl C) target elt ρ' d τ1 (λy τ2=>I (i+1) (ys++ [y]) τ2)) Fin d τ) X
theorem qJN{target iter:Expr}{scope:Scope}(sh:CShape c scope cl ρ ρ')(h:COMPc c target elt iter scope cl ρ ρ' σ X (λys τ=>Q (.lst ys) τ))
  (hs:autoParam (∀x,pure x=foldedSetIterable iter c.env x) auI):WEc c (.ListComp elt [⟨target,iter,[],0⟩] scope pos) ρ σ Q X:=.mk λg R own s S=>by
 rw[eval_ListComp]
 refine qI1 sh.clos.symm sh.cell sh.kind sh.names sh.ok sh.sub (λx=>(hs x).symm) S h (λ_ _ x=>x) (λd τ j=>j) λg3 σ3 s3 C oC m Da ws k ys l3 S3 hn hD gD fD dvs q=>?_
 refine(y12 m (S3.nsC hn) (λh' hs'=>?_))
 have S4:=S.letGo S3 rfl hn hs'
 have hne:Da≠C:=λz=>fD.1 (by rw[z];exact List.mem_map_of_mem (f:=(·.1)) (List.mem_append_right own List.mem_cons_self))
 have hD':h'.get? Da=some (listOf ws k):=(hs'.2 _ hne).trans hD
 obtain⟨g4,l4,S5,f⟩:=S4.ext (h':=h') (tk:=s3.toks) (λb o e=>e)
 have sl:(own++R).Sublist (own++(C,oC)::R):=(List.Sublist.refl own).append (List.sublist_cons_self _ R)
 have il:=f Da _ hD' ⟨λq=>fD.1 ((sl.map _).subset q),fD.2⟩
 exact(.mk g4 _ σ3 (l3.trans l4) S5 (.lst (vs:=ws.toList) (y13 _ il rfl ⟨_,rfl⟩) (dvs.mono l4)) q)
end
section
open Sem (wp)
open PySem.Builtin.Bytes (exported exportsOf checkResize payload payload? ownRelease checkCodecArg bindOptional byteValue takeBufferQuiet?)
section
variable {R:Result→Shared→Prop}
theorem qCW{id:String}{args:Args}{b:Builtin}(nb:badC (.builtin id args)=false)(hb:entryFor table id=some b)
  (h:wpC (model pw w) (A.under (.builtin id args)) (b args)
   (λfin s'=>match fin with| .done f=>R (.ok f) s'| .again c'=>c'.quiet=true∧qAn (model pw w) A c' R s') (λe s'=>R (.error e) s') s):qAn (model pw w) A (.builtin id args) R s:=by
 refine qAh nb ?_
 show wpC _ _ (match entryFor table id with|some b=>b args|none=>unsupported ((withoutEnding? id "#data").getD id)) _ _ s
 rw[hb];exact h
theorem qAt{id:String}{args:Args}{b:Builtin}(hq:plainId id=true)(nb:badC (.builtin id args)=false)(hb:entryFor table id=some b)
  (h:wpAny (model pw w) A.in1 (checkBuiltinCall id args) (λ_ s₁=>wpC (model pw w) A.in1 (b args)
   (λfin s'=>match fin with| .done f=>R (.ok f) s'| .again c'=>c'.quiet=true∧qAn (model pw w) A c' R s') (λe s'=>R (.error e) s') s₁)
   (λe s'=>R (.error e) s') s):qAn (model pw w) A (.call (.builtin id) args) R s:=by
 refine qAh rfl ?_
 show wpC _ A.in1 (do checkBuiltinCall id args;again (.builtin id args)) _ _ s
 exact qA2 (wpAny_mono h (λ_ s₁ h₁=>qA8 ⟨plainId_quiet hq args,qCW nb hb (by rw[Around.under_plainId hq args];exact h₁)⟩) λ_ _ z=>z)
theorem gId{id x:String}(g:guardIds.contains id=false)(k:true=guardIds.contains x):id≠x:=λe=>Bool.noConfusion (k.trans (e▸g))
theorem qFy(self:Value){Q:Bool→Shared→Prop}{M:Model}(hg:A.guards=some [])(h:Q false s):wpC M A (exported self) Q E s:=by
 unfold exported
 refine qII hg (λc p g b=>?_) h
 cases c with
 |builtin id args=>
  have g':guardIds.contains id=false:=g
  have b':Builtin.Bytes.decodersThatHold.contains id=false:=b
  have n1:=gId g' (x:="bytearray.__contains__") (by kernel_rfl!)
  have n2:=gId g' (x:="bytearray.__mod__") (by kernel_rfl!)
  have n3:=gId g' (x:="bytearray.__rmod__") (by kernel_rfl!)
  have n4:=gId g' (x:="_struct.pack_into.held") (by kernel_rfl!)
  have n5:=gId g' (x:="bytearray.find.held") (by kernel_rfl!)
  obtain⟨pos,kw⟩:=args
  delta PySem.Builtin.Bytes.exported.match_1
  refine(dif_neg n1).trans ?_
  refine(dif_neg n2).trans ?_
  refine(dif_neg n3).trans ?_
  refine(dif_neg n4).trans ?_
  refine(dif_neg n5).trans ?_
  cases pos
  ·rfl
  ·show(_ && Builtin.Bytes.decodersThatHold.contains id)=false
   rw[b',Bool.and_false]
 |_=>rfl
end
end
section
open Sem (wp)
theorem qJC:mroOf (.type "bytearray")=pure [.type "bytearray",.type "object"]:=by rw[mroOf_type];kernel_rfl
theorem qFC:typeLookup (.type "bytearray") "__new__"=pure (some (.builtin "bytearray.__new__")):=by rw[typeLookup_type,builtinLookup_eq_fast];kernel_rfl
theorem ba_slot_init:Slot "bytearray" "__init__" "bytearray.__init__":=
 .of (owner:="bytearray") (n:="__init__") (by rw[typeLookup_type,builtinLookup_eq_fast];kernel_rfl) (by decide+kernel) (by decide+kernel) (by decide+kernel)
  (by first|exact .inl (by decide+kernel)|exact .inr (by decide+kernel)) (by rw[isSubtype_type];kernel_rfl)
theorem ba_called:TypeCalled "bytearray" "bytearray.__new__" "bytearray.__init__":=
 ⟨by decide+kernel,by decide+kernel,(y21 _ _ qJC),madeBy_type qJC qFC (by decide+kernel),by decide+kernel,by rw[isSubtype_type];kernel_rfl,ba_slot_init⟩
theorem qGu:checkTypeCall "bytearray" ⟨[],[]⟩=pure ():=by kernel_rfl
theorem qI7:checkBuiltinCall "bytearray.__new__" ⟨[.type "bytearray"],[]⟩=pure ():=by kernel_rfl
theorem qG6:entryFor table "bytearray.__new__"=some Builtin.«list.__new__» :=entryFor_alias (id':="list.__new__") (by kernel_rfl) (by first|rfl|decide+kernel) (by decide+kernel) (by kernel_rfl)
theorem qFD:entryFor table "bytearray.__init__"=some Builtin.«bytearray.__init__» :=by first|exact entryFor_of_fast (by kernel_rfl)|exact entryFor_of_tree (by kernel_rfl)
theorem qD5:plainId "bytearray.__new__"=true:=by decide+kernel
theorem qEP:isSubtype (.type "bytearray") (.type "bytearray")=pure true:=by rw[isSubtype_type];kernel_rfl
theorem ba_owner:("bytearray.__new__".splitOn ".__new__").headD ""="bytearray":=congrArg (List.headD · "") split_bytearray
theorem ba_bind:Builtin.Bytes.bindOptional "bytearray.__init__" "bytearray" ["source","encoding","errors"] [] []=pure [none,none,none]:=by kernel_rfl
section
theorem ba_new{Q₁:Value→Shared→Prop}(h:Q₁ (.ref s.heap.objs.size) {s with heap:=s.heap.push {cls:=.type "bytearray",data:=.bytearray #[]}}):
  codeAny (model pw w) A (.call (.builtin "bytearray.__new__") ⟨[.type "bytearray"],[]⟩) (wants Q₁ E) s:=by
 refine codeAny_of_tree ?_
 refine wpAny_bind (wpAny_of_eq qI7 (wpAny_pure ⟨plainId_quiet qD5 _,codeAny_builtin_stack qG6 rfl λp st=>?_⟩))
 rw[Around.under_plainId qD5 _]
 have hsub:=qEP
 have hown:=ba_owner
 obtain⟨hp,g,d,tk,os⟩:=s
 simp only[hown]
 wp_walk
 exact h
end
end
section
open Sem (wp)
open PySem.Builtin.Bytes (exported exportsOf checkResize payload payload? ownRelease slotIsOwn checkCodecArg bindOptional byteValue takeBufferQuiet? write)
theorem qGt{id:String}{args:Args}(h:Builtin.Bytes.decodersThatHold.contains id=false):badC (.builtin id args)=false:=h
theorem ba_rel:typeLookup (.type "bytearray") "__release_buffer__"=pure (some (.builtin "bytearray.__release_buffer__")):=by rw[typeLookup_type,builtinLookup_eq_fast];kernel_rfl
theorem ba_ends:"bytearray.__release_buffer__".endsWith ("."++"__release_buffer__")=true:=by decide+kernel
theorem ba_drop:"bytearray.__release_buffer__".dropRight ("__release_buffer__".length+1)="bytearray":=by decide+kernel
section
theorem qCY{M:Model}{Q:Bool→Shared→Prop}(hT:s.TypeIs v "bytearray")(h:Q false s):wpAny M A (ownRelease v) Q E s:=by
 refine wpAny_bind (wpAny_bind (wpAny_specialOf hT ba_rel ?_))
 dsimp only
 rw[ba_ends,ba_drop]
 refine bm_if_false rfl ?_
 exact wpAny_isInstance hT qEP (wpAny_pure h)
theorem qI8{M:Model}{Q:Nat→Shared→Prop}(ho:s.heap.get? a=some o)(hd:o.data= .bytearray b 0)(h:Q 0 s):wpAny M A (exportsOf (.ref a)) Q E s:=by
 unfold exportsOf
 refine wpAny_bind (wpAny_load ho ?_)
 rw[hd]
 exact wpAny_pure h
theorem qJD{M:Model}{Q:Bool→Shared→Prop}(hg:A.guards=some [])(ho:s.heap.get? a=some o)(hd:o.data= .bytearray b 0)(h:Q false s):wpC M A (exported (.ref a) <||> (do return(←exportsOf (.ref a)) > 0)) Q E s:=by
 unfold orM
 refine qA7 (qFy _ hg ?_)
 exact qA2 (qI8 ho hd (qA8 h))
theorem qEQ{M:Model}{Q:Array UInt8→Shared→Prop}(ho:s.heap.get? a=some o)(hd:o.data= .bytearray b 0)(h:Q b s):wpAny M A (payload (.ref a)) Q E s:=by
 refine wpAny_bind (wpAny_bind (wpAny_load ho ?_))
 rw[hd]
 exact wpAny_pure (wpAny_pure h)
theorem qFB{f:Array UInt8→Array UInt8}{M:Model}{Q:Unit→Shared→Prop}(ho:s.heap.get? a=some {cls:=.type "bytearray",data:=.bytearray b})(hz:(f b).size≤sizeLine)
  (h:∀h',h'.get? a=some {cls:=.type "bytearray",data:=.bytearray (f b)}→Heap.SameBut a s.heap h'→Q () {s with heap:=h'}):wpAny M A (write (.ref a) f) Q E s:=by
 refine wpAny_bind (wpAny_load ho ?_)
 refine wpAny_bind (wpAny_update ho ?_)
 have e:=Heap.get?_update_self (Obj.mapBytearray f) ho rfl
 refine wpAny_lookBehind e ?_ (h _ e (Heap.SameBut.update ..))
 show(if(f b).size > sizeLine then _ else _)=none
 rw[if_neg (Nat.not_lt.mpr hz)]
theorem qG5{M:Model}{Q:Unit→Shared→Prop}(hg:A.guards=some [])(ho:s.heap.get? a=some o)(hd:o.data= .bytearray b 0)(h:Q () s):wpC M A (checkResize (.ref a)) Q E s:=by
 unfold checkResize
 exact qA7 (qJD hg ho hd (qA8 h))
theorem ba_call{Q:Value→Shared→Prop}(hg:A.guards=some [])(h:∀h',h'.get? s.heap.objs.size=some {cls:=.type "bytearray",data:=.bytearray #[]}→Heap.SameBut s.heap.objs.size (s.heap.push {cls:=.type "bytearray",data:=.bytearray #[]}) h'→Q (.ref s.heap.objs.size) {s with heap:=h'}):wpC (model pw w) A (call (.type "bytearray") []) Q E s:=by
 refine qEZ (qAh rfl ?_)
 refine qA8 ⟨Code.quiet_builtin _ (by decide+kernel),qCW (by decide) F.entry_type_call ?_⟩
 rw[Around.under_plain (weight_type_call_type "bytearray" [] []) rfl]
 have h1:=ba_called.notType
 have h2:=ba_called.canCreate
 have h3:=ba_called.made
 have h4:=qGu
 have h5:=qJC
 unfold Builtin.«type.__call__»
 refine qGJ h1 ?_
 refine qGJ h2 ?_
 refine qA2 (wpAny_of_eq h4 ?_)
 refine qA2 (wpAny_of_eq h5 ?_)
 refine qGJ rfl ?_
 refine qA2 (wpAny_of_eq h3 (qA2 (wpAny_pure ?_)))
 refine qA2 (wpAny_holding (wpAny_call (codeAny_mono (ba_new (E:=λ_ _=>False) (Q₁:=λv s'=>v= .ref s.heap.objs.size∧s'= {s with heap:=s.heap.push {cls:=.type "bytearray",data:=.bytearray #[]}}) ⟨rfl,rfl⟩) λr s' z=>?_)))
 cases r with
 |error e=>exact z.elim
 |ok fl=>cases fl with
  |ret v=>
   obtain⟨rfl,rfl⟩:=z
   have ho:(s.heap.push {cls:=.type "bytearray",data:=.bytearray #[]}).get? s.heap.objs.size=some {cls:=.type "bytearray",data:=.bytearray #[]}:=Heap.get?_push_size _ rfl
   have hT:Shared.TypeIs {s with heap:=s.heap.push {cls:=.type "bytearray",data:=.bytearray #[]}} (.ref s.heap.objs.size) "bytearray":=(y12 _ ho rfl)
   refine qA2 (wpAny_isInstance hT qEP ?_)
   first|refine bm_if_false rfl ?_|refine qGJ rfl ?_
   refine qA7 (qAc ?_)
   unfold callSpecial?
   refine qA2 (wpAny_specialOf hT ba_slot_init.lookup ?_)
   refine qAc (qA2 (wpAny_of_eq (ba_slot_init.bind _) ?_))
   refine qA7 (qEZ (qAt ba_slot_init.plain (qGt (by decide)) qFD (ba_slot_init.check _ _ _ _ _ _ _ _ hT ?_ ?_)))
   ·unfold argsOk;kernel_rfl
   ·unfold Builtin.«bytearray.__init__»
    refine qA2 (qCY hT ?_)
    first|refine bm_if_false rfl ?_|refine qGJ rfl ?_
    refine qA2 (wpAny_of_eq ba_bind ?_)
    refine qA2 (wpAny_of_eq (show checkCodecArg "bytearray.__init__" "bytearray" "encoding" none=pure () from rfl) ?_)
    refine qA2 (wpAny_of_eq (show checkCodecArg "bytearray.__init__" "bytearray" "errors" none=pure () from rfl) ?_)
    refine qA7 (qJD hg ho rfl ?_)
    first|refine bm_if_false rfl ?_|refine qGJ rfl ?_
    refine qA2 (qFB ho (Nat.zero_le _) λh' e' sb=>?_)
    refine qA7 (qA8 (qA8 ?_))
    refine qA8 (qA8 ?_)
    exact h h' e' sb
  |_=>exact z.elim
end
end
section
open Sem (wp)
open PySem.Builtin.Bytes (exported exportsOf checkResize payload payload? ownRelease slotIsOwn checkCodecArg bindOptional byteValue takeBufferQuiet? takeBuffer? buffer? write)
theorem ba_slot_append:Slot "bytearray" "append" "bytearray.append":=
 .of (owner:="bytearray") (n:="append") (by rw[typeLookup_type,builtinLookup_eq_fast];kernel_rfl) (by decide+kernel) (by decide+kernel) (by decide+kernel)
  (by first|exact .inl (by decide+kernel)|exact .inr (by decide+kernel)) qEP
theorem ba_slot_extend:Slot "bytearray" "extend" "bytearray.extend":=
 .of (owner:="bytearray") (n:="extend") (by rw[typeLookup_type,builtinLookup_eq_fast];kernel_rfl) (by decide+kernel) (by decide+kernel) (by decide+kernel)
  (by first|exact .inl (by decide+kernel)|exact .inr (by decide+kernel)) qEP
theorem qDu:entryFor table "bytearray.append"=some Builtin.«bytearray.append» :=entryFor_of_fast (by kernel_rfl)
theorem qDt:entryFor table "bytearray.extend"=some Builtin.«bytearray.extend» :=entryFor_of_fast (by kernel_rfl)
theorem qBa:typeLookup (.type "bytes") "__buffer__"=pure (some (.builtin "bytes.__buffer__")):=by rw[typeLookup_type,builtinLookup_eq_fast];kernel_rfl
theorem by_rel:typeLookup (.type "bytes") "__release_buffer__"=pure none:=by rw[typeLookup_type,builtinLookup_eq_fast];kernel_rfl
theorem by_ends:"bytes.__buffer__".endsWith ("."++"__buffer__")=true:=by decide+kernel
theorem by_drop:"bytes.__buffer__".dropRight ("__buffer__".length+1)="bytes":=by decide+kernel
section
theorem qBw{t:Tok}:s.TypeIs (.bytes b t) "bytes":=rfl
theorem qJF{i:Int}{t:Tok}{Q:Value→Shared→Prop}(hg:A.guards=some [])(ho:s.heap.get? a=some {cls:=.type "bytearray",data:=.bytearray b})(hi:0≤i∧i < 256)(hz:b.size+1≤sizeLine)
  (h:∀h',h'.get? a=some {cls:=.type "bytearray",data:=.bytearray (b.push i.toNat.toUInt8)}→Heap.SameBut a s.heap h'→Q .none {s with heap:=h'}):wpC (model pw w) A (call (.builtin "bytearray.append") [.ref a,.int i t]) Q E s:=by
 have hT:s.TypeIs (.ref a) "bytearray":=(y12 _ ho rfl)
 refine qEZ (qAt ba_slot_append.plain (qGt (by decide)) qDu (ba_slot_append.check _ _ _ _ _ _ _ _ hT (by unfold argsOk;kernel_rfl) ?_))
 unfold Builtin.«bytearray.append»
 refine qA2 (wpAny_of_eq (a:=(.ref a,.int i t)) rfl ?_)
 dsimp only
 refine qA2 ?_
 ·unfold byteValue
  refine wpAny_bind (wpAny_of_eq (rfl:asIndex (.int i t)=pure i) ?_)
  have e:(decide (i < 0) || decide (i ≥ 256))=false:=by simp only[Bool.or_eq_false_iff,decide_eq_false_iff_not];omega
  rw[e]
  first|refine bm_if_false rfl ?_|refine qGJ rfl ?_
  refine wpAny_pure ?_
  refine qA7 (qG5 hg ho rfl ?_)
  refine qA2 (qFB ho (by rw[Array.size_push];exact hz) λh' e' sb=>?_)
  exact qA8 (h h' e' sb)
theorem qG2{t:Tok}{M:Model}{Q:Bool→Shared→Prop}(h:Q true s):wpAny M A (slotIsOwn (.bytes b t) "__buffer__") Q E s:=by
 unfold slotIsOwn
 refine wpAny_bind (wpAny_specialOf qBw qBa ?_)
 dsimp only
 rw[by_ends,by_drop]
 refine bm_if_false rfl ?_
 exact wpAny_isInstance qBw F.bm_sub h
theorem qJ6{t:Tok}{M:Model}{Q:Bool→Shared→Prop}(h:Q false s):wpAny M A (ownRelease (.bytes b t)) Q E s:=by
 refine wpAny_bind (wpAny_bind (wpAny_specialOf qBw by_rel ?_))
 exact wpAny_pure (wpAny_pure h)
theorem by_buf{id:String}{t:Tok}{f:Bool}{M:Model}{Q:Option (Array UInt8)→Shared→Prop}(h:Q (some b) s):wpAny M A (buffer? id (.bytes b t) f) Q E s:=by
 unfold buffer?
 refine wpAny_bind (wpAny_specialOf qBw qBa ?_)
 refine wpAny_bind (qG2 ?_)
 refine bm_if_false rfl ?_
 refine wpAny_bind (wpAny_specialOf qBw qBa ?_)
 refine wpAny_bind (qJ6 ?_)
 refine bm_if_false rfl ?_
 exact wpAny_bind (wpAny_of_eq (a:=b) rfl (wpAny_pure h))
theorem qJ5{id:String}{t:Tok}{f:Int}{M:Model}{Q:Option (Array UInt8 × Option Value)→Shared→Prop}(h:Q (some (b,none)) s):wpAny M A (takeBufferQuiet? id (.bytes b t) f) Q E s:=by
 refine wpAny_bind (wpAny_attempt ?_)
 refine wpAny_bind (wpAny_specialOf qBw qBa ?_)
 refine wpAny_bind (qG2 ?_)
 refine bm_if_false rfl ?_
 refine wpAny_bind (wpAny_specialOf qBw qBa ?_)
 exact wpAny_bind (by_buf (wpAny_pure (wpAny_pure h)))
theorem qJE{b2:Array UInt8}{t:Tok}{Q:Value→Shared→Prop}(hg:A.guards=some [])(ho:s.heap.get? a=some {cls:=.type "bytearray",data:=.bytearray b})(hz:b.size+b2.size≤sizeLine)
  (h:∀h',h'.get? a=some {cls:=.type "bytearray",data:=.bytearray (b++b2)}→Heap.SameBut a s.heap h'→Q .none {s with heap:=h'}):wpC (model pw w) A (call (.builtin "bytearray.extend") [.ref a,.bytes b2 t]) Q E s:=by
 have hT:s.TypeIs (.ref a) "bytearray":=(y12 _ ho rfl)
 refine qEZ (qAt ba_slot_extend.plain (qGt (by decide)) qDt (ba_slot_extend.check _ _ _ _ _ _ _ _ hT (by unfold argsOk;kernel_rfl) ?_))
 unfold Builtin.«bytearray.extend»
 refine qA2 (wpAny_of_eq (a:=(.ref a,.bytes b2 t)) rfl ?_)
 dsimp only
 refine qA2 (wpAny_specialOf qBw qBa ?_)
 refine C_ifT rfl ?_
 refine qA2 (wpAny_rule (qA2 (qEQ ho rfl ?_)))
 refine qA2 (qJ5 ?_)
 show wpC (model pw w) A.in1 (do
  if !b2.isEmpty then checkResize (.ref a)
  write (.ref a) (· ++b2)
  ret .none:Sem Fin) _ _ s
 have tail:∀{P:Fin→Shared→Prop},(∀h',h'.get? a=some {cls:=.type "bytearray",data:=.bytearray (b++b2)}→Heap.SameBut a s.heap h'→P (.done (.ret .none)) {s with heap:=h'})→wpC (model pw w) A.in1 (do
   write (.ref a) (· ++b2)
   ret .none:Sem Fin) P (λe s'=>E e s') s:=λk=>by
  refine qA2 (qFB ho (by rw[Array.size_append];exact hz) λh' e' sb=>?_)
  exact qA8 (k h' e' sb)
 cases hb:b2.isEmpty
 ·refine C_ifT rfl ?_
  exact qA7 (qG5 hg ho rfl (tail h))
 ·first|refine bm_if_false rfl ?_|refine qGJ rfl ?_
  exact tail h
end
theorem qGw:typeLookup (.type "bytearray") "__bytes__"=pure none:=by rw[typeLookup_type,builtinLookup_eq_fast];kernel_rfl
theorem qGv:typeLookup (.type "bytearray") "__index__"=pure none:=by rw[typeLookup_type,builtinLookup_eq_fast];kernel_rfl
theorem qDv:typeLookup (.type "bytearray") "__buffer__"=pure (some (.builtin "bytearray.__buffer__")):=by rw[typeLookup_type,builtinLookup_eq_fast];kernel_rfl
theorem ba_bends:"bytearray.__buffer__".endsWith ("."++"__buffer__")=true:=by decide+kernel
theorem ba_bdrop:"bytearray.__buffer__".dropRight ("__buffer__".length+1)="bytearray":=by decide+kernel
theorem by_bytes:typeLookup (.type "bytes") "__bytes__"=pure (some (.builtin "bytes.__bytes__")):=by rw[typeLookup_type,builtinLookup_eq_fast];kernel_rfl
theorem qCX:PlainAttrs "bytearray":=⟨(y12 "bytearray.__getattribute__" (by rw[typeLookup_type,builtinLookup_eq_fast];kernel_rfl) (by decide+kernel)),by rw[typeLookup_type,builtinLookup_eq_fast];kernel_rfl⟩
theorem qG4:typeOf (.builtin "bytearray.append")=pure (.type "method_descriptor"):=by show builtinType _=_;rw[builtinType_eq_fast];kernel_rfl
theorem qG3:typeOf (.builtin "bytearray.extend")=pure (.type "method_descriptor"):=by show builtinType _=_;rw[builtinType_eq_fast];kernel_rfl
section
theorem ba_buf{id:String}{f:Bool}{M:Model}{Q:Option (Array UInt8)→Shared→Prop}(ho:s.heap.get? a=some {cls:=.type "bytearray",data:=.bytearray b})(h:Q (some b) s):wpAny M A (buffer? id (.ref a) f) Q E s:=by
 have hT:s.TypeIs (.ref a) "bytearray":=(y12 _ ho rfl)
 refine wpAny_bind (wpAny_specialOf hT qDv ?_)
 dsimp only
 refine wpAny_bind ?_
 ·unfold slotIsOwn
  refine wpAny_bind (wpAny_specialOf hT qDv ?_)
  dsimp only
  rw[ba_bends,ba_bdrop]
  refine bm_if_false rfl ?_
  refine wpAny_isInstance hT qEP ?_
  refine bm_if_false rfl ?_
  refine wpAny_bind (wpAny_specialOf hT qDv ?_)
  refine wpAny_bind (qCY hT ?_)
  refine bm_if_false rfl ?_
  exact wpAny_bind (qEQ ho rfl (wpAny_pure h))
theorem qGs{Q:Value→Shared→Prop}(ho:s.heap.get? a=some {cls:=.type "bytearray",data:=.bytearray b})(hz:b.size≤sizeLine)
  (hQ:Q (.bytes b s.toks) {s with toks:=s.toks+1}):wpAny (model pw w) A (call (.type "bytes") [.ref a]) Q E s:=by
 have hT:s.TypeIs (.ref a) "bytearray":=(y12 _ ho rfl)
 refine callType_codes (Q₁:=λobj s₁=>s₁.TypeIs obj "bytes"∧Q obj s₁) F.bm_called (F.bm_typeCall _) F.entry_object_init ?_ λobj s₁ h₁=>?_
 ·refine codeAny_of_tree ?_
  show wpAny _ A.in1.in1 (do checkBuiltinCall "bytes.__new__" ⟨[.type "bytes",.ref a],[]⟩;again (.builtin "bytes.__new__" ⟨[.type "bytes",.ref a],[]⟩)) _ _ s
  refine wpAny_bind (wpAny_of_eq (F.bm_newCall _) (wpAny_pure ⟨plainId_quiet F.bm_plain _,codeAny_builtin F.bm_entry ?_⟩))
  rw[Around.under_plainId F.bm_plain _]
  unfold Builtin.«bytes.__new__»
  refine wpAny_bind (wpAny_of_eq (a:=true) rfl ?_)
  refine bm_if_false rfl ?_
  refine wpAny_bind (wpAny_of_eq F.bm_sub ?_)
  refine bm_if_false rfl ?_
  refine wpAny_bind (wpAny_of_eq (F.bm_bind _) ?_)
  refine wpAny_bind (wpAny_of_eq (a:=()) rfl ?_)
  refine wpAny_bind (wpAny_of_eq (a:=()) rfl ?_)
  refine bm_if_false rfl ?_
  refine wpAny_bind (wpAny_specialOf hT qGw ?_)
  refine wpAny_bind (wpAny_bind ?_)
  show wpAny _ _ (load a >>=_) _ _ _
  refine wpAny_bind (wpAny_load ho ?_)
  refine wpAny_pure (wpAny_pure ?_)
  refine bm_if_false rfl ?_
  refine wpAny_bind (wpAny_specialOf hT qGv ?_)
  refine bm_if_true rfl ?_
  refine wpAny_bind ?_
  refine ba_buf ho ?_
  refine wpAny_bind (wpAny_rule (wpAny_bind (wpAny_mkBytes ?_ hz)))
  show wpAny _ _ (if(Value.type "bytes"==Value.type "bytes")=true then _ else _) _ _ _
  refine bm_if_true (by decide) ?_
  exact wpAny_pure ⟨PySem.W.typeIs_bytes _ _ _,hQ⟩
 ·exact(y03 h₁.1 (F.args_object_init_2 obj _) (object_init_meets F.bm_called.init.lookup F.bm_called.made (by decide) pw w A.in1 _ s₁ (y03 h₁.1 rfl h₁.2)))
theorem qED{t:Tok}{Q:Value→Shared→Prop}(hQ:Q (.bytes b t) s):wpAny (model pw w) A (call (.type "bytes") [.bytes b t]) Q E s:=by
 have hT:s.TypeIs (.bytes b t) "bytes":=rfl
 refine callType_codes (Q₁:=λobj s₁=>s₁.TypeIs obj "bytes"∧Q obj s₁) F.bm_called (F.bm_typeCall _) F.entry_object_init ?_ λobj s₁ h₁=>?_
 ·refine codeAny_of_tree ?_
  show wpAny _ A.in1.in1 (do checkBuiltinCall "bytes.__new__" ⟨[.type "bytes",.bytes b t],[]⟩;again (.builtin "bytes.__new__" ⟨[.type "bytes",.bytes b t],[]⟩)) _ _ s
  refine wpAny_bind (wpAny_of_eq (F.bm_newCall _) (wpAny_pure ⟨plainId_quiet F.bm_plain _,codeAny_builtin F.bm_entry ?_⟩))
  rw[Around.under_plainId F.bm_plain _]
  unfold Builtin.«bytes.__new__»
  refine wpAny_bind (wpAny_of_eq (a:=true) rfl ?_)
  refine bm_if_false rfl ?_
  refine wpAny_bind (wpAny_of_eq F.bm_sub ?_)
  refine bm_if_false rfl ?_
  refine wpAny_bind (wpAny_of_eq (F.bm_bind _) ?_)
  refine wpAny_bind (wpAny_of_eq (a:=()) rfl ?_)
  refine wpAny_bind (wpAny_of_eq (a:=()) rfl ?_)
  refine bm_if_false rfl ?_
  refine wpAny_bind (wpAny_specialOf hT by_bytes ?_)
  refine wpAny_bind (wpAny_rule (wpAny_bind (wpAny_typeOf hT ?_)))
  refine bm_if_true (by decide) ?_
  show wpAny _ _ (if(Value.type "bytes"==Value.type "bytes")=true then _ else _) _ _ _
  exact bm_if_true (by decide) (wpAny_pure ⟨PySem.W.typeIs_bytes _ _ _,hQ⟩)
 ·exact(y03 h₁.1 (F.args_object_init_2 obj _) (object_init_meets F.bm_called.init.lookup F.bm_called.made (by decide) pw w A.in1 _ s₁ (y03 h₁.1 rfl h₁.2)))
end
section
variable {b2:Array UInt8}
theorem qHb(h:σ a=some (.barr b))(hz:b.size≤sizeLine)(q:Q (.bytes b) σ):OC c (.typ "bytes") [.obj a] ρ σ Q X:=.mk λg R own s vf vs S dv dvs=>by
 refine dv.on λ_=>?_;obtain⟨v1,rfl,d1⟩:=dvs.one;refine d1.on λ_=>?_
 exact qGs (S.rel.rep a _ h) hz (S.val (.bytes _ _) q)
theorem qDM(q:Q (.bytes b) σ):OC c (.typ "bytes") [.bytes b] ρ σ Q X:=.mk λg R own s vf vs S dv dvs=>by
 refine dv.on λ_=>?_;obtain⟨v1,rfl,d1⟩:=dvs.one;refine d1.on λ_=>?_
 exact qED (S.val0 (.bytes _ _) q)
theorem C_barr(h:∀a,σ a=none→Q (.obj a) (σ.set a (.barr #[]))):OCc c (.typ "bytearray") [] ρ σ Q X:=.mk λg R own s vf vs S dv dvs=>by
 refine dv.on λ_=>?_;refine dvs.end ?_
 refine ba_call S.ok.gd λh' e sb=>?_
 obtain⟨n,S2⟩:=S.newMO (o:= {cls:=.type "bytearray",data:=.bytearray #[]}) (mo:=.barr #[]) (Heap.get?_push_size _ rfl) rfl
 have k:Le (s.heap.push {cls:=.type "bytearray",data:=.bytearray #[]}) h':=λb o eb=>by
  by_cases z:b=s.heap.objs.size
  ·subst z;rw[Heap.get?_push_size _ rfl]at eb;rw[e,←eb]
  ·exact(sb.2 b z).trans eb
 exact(.mk g _ _ (Le.refl g) (S2.heap (S2.rel.ext k)) (.obj _) (h _ n))
theorem qEX(h:σ a=some (.barr b)):GM c (.obj a) "append" ρ σ (.blt "bytearray.append") [.obj a]:=.mk λg R own s v pl S dv=>by
 refine dv.on λ_=>?_
 have ho:=S.rel.rep a _ h
 exact getMethod_builtin (T:="bytearray") (y12 _ ho rfl) qCX ba_slot_append qG4 (λa' e=>by injection e with e;subst e;exact(y12 _ ho rfl)) (.mk g (Le.refl g) S (.blt _) (.cons (.obj _) .nil))
theorem qIH(h:σ a=some (.barr b)):GM c (.obj a) "extend" ρ σ (.blt "bytearray.extend") [.obj a]:=.mk λg R own s v pl S dv=>by
 refine dv.on λ_=>?_
 have ho:=S.rel.rep a _ h
 exact getMethod_builtin (T:="bytearray") (y12 _ ho rfl) qCX ba_slot_extend qG3 (λa' e=>by injection e with e;subst e;exact(y12 _ ho rfl)) (.mk g (Le.refl g) S (.blt _) (.cons (.obj _) .nil))
theorem qGM{i:Int}(h:σ a=some (.barr b))(hi:0≤i∧i < 256)(hz:b.size+1≤sizeLine)(q:Q .none (σ.set a (.barr (b.push i.toNat.toUInt8)))):OCc c (.blt "bytearray.append") [.obj a,.int i] ρ σ Q X:=.mk λg R own s vf vs S dv dvs=>by
 refine dv.on λ_=>?_;obtain⟨v1,v2,rfl,d1,d2⟩:=dvs.two;refine d1.on λ_=>?_;refine d2.on λ_=>?_
 refine qJF S.ok.gd (S.rel.rep a _ h) hi hz λh' e sb=>?_
 refine(.mk g .none _ (Le.refl g) ⟨S.ok,?_,S.wd,S.gens,S.os,S.locs,S.frs⟩ .none q)
 exact S.rel.turn h (λb hb=>hb) (λb ob hb e=>(sb.2 b (λz=>hb (by simp[MO.at,z]))).trans e) e
theorem qJm(h:σ a=some (.barr b))(hz:b.size+b2.size≤sizeLine)(q:Q .none (σ.set a (.barr (b++b2)))):OCc c (.blt "bytearray.extend") [.obj a,.bytes b2] ρ σ Q X:=.mk λg R own s vf vs S dv dvs=>by
 refine dv.on λ_=>?_;obtain⟨v1,v2,rfl,d1,d2⟩:=dvs.two;refine d1.on λ_=>?_;refine d2.on λ_=>?_
 refine qJE S.ok.gd (S.rel.rep a _ h) hz λh' e sb=>?_
 refine(.mk g .none _ (Le.refl g) ⟨S.ok,?_,S.wd,S.gens,S.os,S.locs,S.frs⟩ .none q)
 exact S.rel.turn h (λb hb=>hb) (λb ob hb e=>(sb.2 b (λz=>hb (by simp[MO.at,z]))).trans e) e
end
end
section
open Sem (wp)
open PySem.Builtin.Bytes (payload payload? takeBufferQuiet? joinItems joined joinLetGo tooLong joinM)
theorem jSub{i l:Nat}(h:i < l):l - i=l - (i+1)+1:=(Nat.succ_pred_eq_of_pos (Nat.sub_pos_of_lt h)).symm
theorem cutR{L P:Prop}(main:L→P)(loop:L):P:=main loop
noncomputable def catB(bs:List (Array UInt8)):Array UInt8:=bs.foldl (· ++ ·) #[]
theorem qFb(bs:List (Array UInt8)):joined #[] bs=catB bs:=by
 have k:∀(l:List (Array UInt8)) (n:Nat) (a:Array UInt8),(l.zipIdx n).foldl (λout (p:Array UInt8 × Nat)=>(if p.2 > 0 then out++ #[]else out)++p.1) a=l.foldl (· ++ ·) a:=by
  intro l
  induction l with
  |nil=>intros;rfl
  |cons x r ih=>
   intro n a
   rw[List.zipIdx_cons,List.foldl_cons,List.foldl_cons,ih]
   congr 1
   split <;> simp
 exact k bs 0 #[]
theorem bj_slot:Slot "bytes" "join" "bytes.join":=
 .of (owner:="bytes") (n:="join") (by rw[typeLookup_type,builtinLookup_eq_fast];kernel_rfl) (by decide+kernel) (by decide+kernel) (by decide+kernel)
  (by first|exact .inl (by decide+kernel)|exact .inr (by decide+kernel)) F.bm_sub
theorem bj_entry:entryFor table "bytes.join"=some Builtin.«bytes.join» :=entryFor_of_fast (by kernel_rfl)
theorem bj_ty:typeOf (.builtin "bytes.join")=pure (.type "method_descriptor"):=by show builtinType _=_;rw[builtinType_eq_fast];kernel_rfl
theorem qF9:PlainAttrs "bytes":=⟨(y12 "bytes.__getattribute__" (by rw[typeLookup_type,builtinLookup_eq_fast];kernel_rfl) (by decide+kernel)),by rw[typeLookup_type,builtinLookup_eq_fast];kernel_rfl⟩
section
theorem bj_letGo{M:Model}{Q:Unit→Shared→Prop}(tk:List (Value × Option Value))(keep:List Value)(k:∀x∈tk,x.2=none)(h:Q () s):wpAny M A (joinLetGo tk keep) Q E s:=by
 induction tk with
 |nil=>exact wpAny_pure h
 |cons p r ih=>
  cases p with|mk x u=>
  have:u=none:=k _ List.mem_cons_self
  subst this
  exact wpAny_bind (wpAny_letGo (ih λy hy=>k y (List.mem_cons_of_mem _ hy)))
noncomputable def qDs(l:List (Array UInt8 × Tok)):List Value:=l.map λp=>.bytes p.1 p.2
theorem qI5{t:Tok}{l:List (Array UInt8 × Tok)}{Q:Value→Shared→Prop}(hl:s.heap.IsList a (qDs l).toArray)(hz:(catB (l.map (·.1))).size≤sizeLine)
  (h:∀u k,Q (.bytes (catB (l.map (·.1))) u) {s with toks:=k}):wpAny (model pw w) A (call (.builtin "bytes.join") [.bytes #[] t,.ref a]) Q E s:=by
 have hT:s.TypeIs (.bytes #[] t) "bytes":=rfl
 obtain⟨ol,hol,hoc,nl,hod⟩:=id hl
 refine wpAny_call (codeAny_call_builtin bj_slot.plain bj_entry (bj_slot.check _ _ _ _ _ _ _ _ hT (by unfold argsOk;kernel_rfl) ?_))
 refine wpAny_bind (wpAny_of_eq (a:=(.bytes #[] t,.ref a)) rfl ?_)
 refine bm_if_true (by decide) ?_
 unfold joinItems
 refine wpAny_bind (wpAny_bind (wpAny_typeOf hl.typeIs ?_))
 refine bm_if_true (by decide) (wpAny_pure ?_)
 have items:∀{M:Model} {A:Around} {E:Value→Shared→Prop} {Q:Option (Array Value)→Shared→Prop},Q (some (qDs l).toArray) s→wpAny M A (seqItems? (.ref a)) Q E s:=λq=>by
  show wpAny _ _ (load a >>=_) _ _ _
  refine wpAny_bind (wpAny_load hol ?_)
  rw[hod]
  exact wpAny_pure q
 refine wpAny_bind (items ?_)
 refine bm_if_true (by decide) ?_
 generalize hit:(qDs l).toArray=it at items hod hl ⊢
 obtain⟨it',e'⟩:∃it',it'=it:=⟨_,rfl⟩
 apply cutR
 case main=>
  intro k
  rcases it with⟨_| ⟨x,_| ⟨y,r⟩⟩⟩
  rotate_left
  ·change wpAny _ _ (typeOf x >>=_) _ _ _
   have e2:qDs l= [x]:=congrArg Array.toList hit
   rcases l with _| ⟨p,_| ⟨q,l⟩⟩
   ·cases e2
   ·injection e2 with e2 _;subst e2
    refine wpAny_bind (wpAny_of_eq (a:=.type "bytes") rfl ?_)
    refine bm_if_true (by decide) (wpAny_bind (wpAny_rule (wpAny_pure ?_)))
    have q:=h p.2 s.toks
    rw[show catB (List.map (λx=>x.1) [p])=p.1 by simp[catB]]at q
    exact q
   ·injection e2 with _ e2;cases e2
  all_goals
   change wpAny _ _ (forIn _ _ _ >>=_) _ _ _
   rw[←e']
   exact k
 case loop=>
  subst e'
  refine wpAny_bind ?_
  rw[Std.Legacy.Range.forIn_eq_forIn_range']
  have hlen:it'.size=l.length:=by rw[←hit];simp[qDs]
  have hsz:([:it'.size]:Std.Legacy.Range).size=l.length:=by simp[Std.Legacy.Range.size,hlen]
  rw[hsz]
  refine wpAny_forIn_list _ (λrest b s'=>∃i,rest=List.range' i (l.length - i)∧i≤l.length∧s'=s∧b.1=((l.map (·.1)).take i).toArray∧∀x∈b.2,x.2=none∧x.1.onHeap=false) _ (λx rest b s' o1'=>x1_5 o1' λi hr hi es hb ht=>?_) (λb s' o2'=>x1_5 o2' λi hr hi es hb ht=>?_) _ _ (y15 0 rfl (Nat.zero_le _) rfl rfl (λx hx=>nomatch hx))
  ·have hlt:i < l.length:=by
    rcases Nat.lt_or_ge i l.length with z|z
    ·exact z
    ·rw[Nat.sub_eq_zero_of_le z]at hr;cases hr
   rw[jSub hlt,List.range'_succ]at hr
   injection hr with e1 e2
   subst e1 es
   have hx:it'.getD x .none= .bytes l[x].1 l[x].2:=by rw[←hit];simp[qDs,hlt]
   have hany:(b.2.any λx=>x.1.onHeap)=false:=List.any_eq_false.mpr λy hy=>by rw[(ht y hy).2];decide
   refine wpAny_bind (items ?_)
   dsimp only
   refine bm_if_false (by rw[hany];rfl) ?_
   rw[hx]
   refine wpAny_bind (wpAny_holding (qJ5 ?_))
   refine wpAny_bind (items ?_)
   refine bm_if_false (by simp) ?_
   refine wpAny_pure (y15 (x+1) e2 hlt rfl ?_ (λz hz=>?_))
   ·rw[hb,List.take_add_one]
    simp[hlt]
   ·rcases List.mem_append.mp hz with q|q
    ·exact ht z q
    ·rw[List.mem_singleton.mp q];exact⟨rfl,rfl⟩
  ·have hil:i=l.length:=by
    rcases Nat.lt_or_ge i l.length with z|z
    ·rw[jSub z,List.range'_succ]at hr;cases hr
    ·exact Nat.le_antisymm hi z
   subst hil es
   have hb':b.1.toList=l.map (·.1):=by rw[hb,List.take_of_length_le (by rw[List.length_map];exact Nat.le_refl _)]
   refine wpAny_bind (wpAny_of_eq (a:=#[]) rfl ?_)
   have hfold:∀(L:List (Array UInt8)) (n:Nat),L.foldl (λx y=>x+y.size) n=n+(catB L).size:=by
    intro L n
    have k:∀(L:List (Array UInt8)) (n:Nat) (a:Array UInt8),L.foldl (λx y=>x+y.size) (n+a.size)=n+(L.foldl (· ++ ·) a).size:=by
     intro L
     induction L with
     |nil=>intros;rfl
     |cons x r ih=>
      intro n a
      rw[List.foldl_cons,List.foldl_cons,←ih]
      simp[Array.size_append,Nat.add_assoc]
    exact k L n #[]
   have hlong:tooLong (b.1.foldl (λx y=>x+y.size) ((#[]:Array UInt8).size * (b.1.size - 1)))=false:=by
    rw[←Array.foldl_toList,hb',hfold]
    unfold tooLong
    simp only[List.size_toArray,List.length_nil,Nat.zero_mul,Nat.zero_add,decide_eq_false_iff_not,Nat.not_lt]
    exact hz
   refine bm_if_false hlong ?_
   rw[hb',qFb]
   refine wpAny_bind (wpAny_mkBytes ?_ hz)
   refine wpAny_bind (wpAny_holding (wpAny_point ?_))
   refine wpAny_bind (bj_letGo _ _ (λy hy=>(ht y hy).1) ?_)
   exact wpAny_pure (h _ _)
end
section
theorem qJ4{bs:List (Array UInt8)}(h:DVs g (bs.map .bytes) vs):∃l:List (Array UInt8 × Tok),l.map (·.1)=bs∧vs=qDs l:=by
 induction bs generalizing vs with
 |nil=>exact DVs.end h (y12 [] rfl rfl)
 |cons b bs ih=>
  refine DVs.on h λv ws d r=>?_
  refine d.on λt=>?_
  obtain⟨l,e1,e2⟩:=ih r
  exact(y12 ((b,t)::l) (congrArg (b:: ·) e1) (congrArg (Value.bytes b t:: ·) e2))
theorem GM_bjoin:GM c (.bytes b) "join" ρ σ (.blt "bytes.join") [.bytes b]:=.mk λg R own s v pl S dv=>by
 refine dv.on λ_=>?_
 exact getMethod_builtin (T:="bytes") rfl qF9 bj_slot bj_ty (λa e=>nomatch e) (.mk g (Le.refl g) S (.blt _) (.cons (.bytes _ _) .nil))
theorem C_bjoin{bs:List (Array UInt8)}(hz:(catB bs).size≤sizeLine)(q:Q (.bytes (catB bs)) σ):OC c (.blt "bytes.join") [.bytes #[],.lst (bs.map .bytes)] ρ σ Q X:=.mk λg R own s vf vs S dv dvs=>by
 refine dv.on λ_=>?_;obtain⟨v1,v2,rfl,d1,d2⟩:=dvs.two;refine d1.on λ_=>?_;refine d2.on λa us ht hv=>?_
 obtain⟨l,e1,e2⟩:=qJ4 hv
 subst e1 e2
 exact qI5 (ht.at (S.rel.keep _)) hz λu k=>S.val (.bytes _ _) q
end
end
theorem qDO(l:List (Nat × Nat × Addr)):TriplesOk (tabL l):=by
 induction l with
 |nil=>trivial
 |cons p r ih=>exact ih
theorem qJJ{cv:Value}{l:List (Nat × Nat × Addr)}(h:codeAmong pos (tabL l)=some cv):∃x∈l,cv= .ref x.2.2:=by
 induction l with
 |nil=>cases h
 |cons p r ih=>
  cases p with|mk a p=>
  cases p with|mk b c=>
  unfold tabL rawInt at h
  unfold codeAmong at h
  split at h
  ·exact⟨_,List.mem_cons_self,(Option.some.inj h).symm⟩
  ·obtain⟨x,hx,e⟩:=ih h
   exact⟨x,List.mem_cons_of_mem _ hx,e⟩
theorem qIP(a b:Nat)(c:Addr)(l:List (Nat × Nat × Addr)):tabL (l++ [(a,b,c)])=tabL l++ [rawInt a,rawInt b,.ref c]:=by
 induction l with
 |nil=>rfl
 |cons p r ih=>exact congrArg (λt=>rawInt p.1::rawInt p.2.1::Value.ref p.2.2::t) ih
theorem law_hd(P:Params)(h:Heap)(X:(KF P).In h):CodeHd h 743 739:=by
 have e:(KF P).lookup 743=some ⟨.type "code",none,.fields #[.str "law" 1193,.str "law" 1194,.str "/claim/cut.py" 1195,.int 675 0,.int 1 0,.int 0 0,.int 0 0,.int 3 0,.ref 738,.bool true,.int 181 0,.ref 739,.none,.ref 740,.ref 741,.ref 742,.int 1209 0,.int 675 0,.str "/claim/cut.py" 1210],#[]⟩:=rfl
 exact⟨_,_,_,_,_,_,_,_,_,X _ _ e,rfl,rfl,rfl,rfl,rfl,rfl,rfl,rfl,by decide⟩
theorem Sg.set_self{o:MO}(h:σ a=some o):σ.set a o=σ:=funext λb=>by
 unfold Sg.set;split
 ·rename_i e;rw[e,h]
 ·rfl
section
theorem qG8{params:Arguments}{body:Expr}{scope:Scope}{l:List (Nat × Nat × Addr)}
  (hcode:c.env.code= .ref 743)(hcl:closureFor scope c.env=pure cl)(hP:σ 739=some (.tab l))
  (h:∀pm cc ctv l',Q (.fn (kla_obj "<lambda>" lamQ params body scope cl pm cc ctv)) (σ.set 739 (.tab l')))
  (hdef:autoParam (defaultsOf params c.env=([],[])) auR)(hq:autoParam (c.env.qual++"<lambda>"=lamQ) auR):WE c (.Lambda params body scope pos) ρ σ Q X:=.mk λg R own s S=>by
 obtain⟨eP,rP⟩:=S.rel.rep 739 _ hP
 have gP:g.get? 739=none:=(S.rel.off 739 _ hP 739 (MO.self _ _)).1
 obtain⟨mg,bm,ob,hmg,b1,b2,b3,b4,b5,b6⟩:=S.wd.bmain
 have hgs:=hmg.keeps S.rel.keep
 have hbP:bm≠739:=λq=>by rw[q,gP]at b3;cases b3
 have hgP:mainGlobals≠739:=by decide
 have hbG:bm≠mainGlobals:=λq=>by
  obtain⟨o,es,ep,e,hd,_⟩:=hmg
  rw[q,e]at b3;cases b3;rw[hd]at b6;cases b6
 have BA:s.heap.BuiltinsAt mg 739:=⟨bm,ob,b1,b2,hbG,hbP,S.rel.keep _ _ b3,b4,b5,b6⟩
 refine kla_eval hdef ?_
 rw[hq]
 cases hf:codeAmong pos (tabL l) with
 |some cv=>
  obtain⟨x,hx,rfl⟩:=qJJ hf
  refine kla_makeFunctionHit (P:=739) (ps:=(tabL l).toArray) hcl S.ok.hg hgs hcode (law_hd _ _ (S.wd.K.keeps S.rel.keep)) eP (qDO l) hf BA λctv h' tk hk hsz=>?_
  have k:Le s.heap (h'.push (kla_obj "<lambda>" lamQ params body scope cl ((mg "__name__").getD .none) x.2.2 ctv)):=λb o e=>Heap.get?_push_of_some _ (hk b o e)
  obtain⟨g',lg,S',f⟩:=S.ext (tk:=tk) k
  have new:g'.get? h'.objs.size=some (kla_obj "<lambda>" lamQ params body scope cl ((mg "__name__").getD .none) x.2.2 ctv):=f _ _ (Heap.get?_push_size _ rfl) (S.free_new (qAU λo q=>Nat.lt_irrefl _ (Nat.lt_of_lt_of_le (Heap.lt_size q) hsz)))
  have q:=h ((mg "__name__").getD .none) x.2.2 ctv l
  rw[Sg.set_self hP]at q
  exact(.mk g' _ σ lg S' (.fn new rfl ((rP x hx).keeps lg)) q)
 |none=>
  refine kla_makeFunction (P:=739) (ps:=(tabL l).toArray) hcl S.ok.hg hgs hcode (law_hd _ _ (S.wd.K.keeps S.rel.keep)) eP (qDO l) hf hgP BA λc' ctv h' tk hx hge hlt hrec htb=>?_
  generalize hO:kla_obj "<lambda>" lamQ params body scope cl ((mg "__name__").getD .none) c' ctv=O
  have hOf:O.isFreed=false:=by rw[←hO];rfl
  have hP':(h'.push O).get? 739=some (tabObj ((tabL l).toArray++ #[rawInt pos.line,rawInt pos.col,.ref c'])):=Heap.get?_push_of_some _ htb
  generalize hH:(h'.push O).update 739 (λ_=>qIO l)=H
  have H1:H.get? 739=some (qIO l):=by rw[←hH];exact Heap.get?_update_self _ hP' rfl
  have H2:∀b,b≠739→H.get? b=(h'.push O).get? b:=λb hb=>by rw[←hH];exact Heap.get?_update_other _ _ (Ne.symm hb)
  have k:Le s.heap H:=λb o e=>by
   by_cases z:b=739
   ·subst z;rw[H1,←eP];exact e
   ·rw[H2 b z];exact Heap.get?_push_of_some _ (hx b o z e)
  obtain⟨g',lg,S',f⟩:=S.ext (tk:=tk) k
  have fresh:∀b,s.heap.objs.size≤b→Free (own++R) σ b:=λb hb=>S.free_new (qAU λo q=>Nat.lt_irrefl _ (Nat.lt_of_lt_of_le (Heap.lt_size q) hb))
  have lt739:739 < s.heap.objs.size:=Heap.lt_size eP
  have sz:s.heap.objs.size≤h'.objs.size:=Nat.le_of_lt (Nat.lt_of_le_of_lt hge hlt)
  have new:g'.get? h'.objs.size=some O:=f _ _ (by rw[H2 _ (Nat.ne_of_gt (Nat.lt_of_lt_of_le lt739 sz))];exact Heap.get?_push_size _ hOf) (fresh _ sz)
  have rec':g'.CodeRec (.ref c') lamQ:=by
   obtain⟨c2,oc,vs,t,e2,hoc,hd,hv⟩:=hrec
   injection e2 with e2;subst e2
   exact⟨c',oc,vs,t,rfl,f _ _ (by rw[H2 _ (Nat.ne_of_gt (Nat.lt_of_lt_of_le lt739 hge))];exact Heap.get?_push_of_some _ hoc) (fresh _ hge),hd,hv⟩
  have R2:Rel c.w g' (own++R) (σ.set 739 (.tab (l++ [(pos.line,pos.col,c')]))) (h'.push O):=by
   refine S'.rel.turn hP (λb hb=>hb) (λb ob hb e=>?_) ⟨?_,λx hx=>?_⟩
   ·rw[←H2 b (λz=>hb (by simp[MO.at,z]))];exact e
   ·rw[hP']
    unfold qIO
    rw[qIP]
    simp
   ·rcases List.mem_append.mp hx with q|q
    ·exact(rP x q).keeps lg
    ·rw[List.mem_singleton.mp q];exact rec'
  refine(.mk g' _ _ lg ⟨S'.ok,R2,S'.wd,S'.gens,S'.os,S'.locs,S'.frs⟩ (.fn new (by rw[←hO]) rec') ?_)
  rw[←hO]
  exact h _ _ _ _
end
def KeepC(ka st:Addr)(R:Pv):Prop:=∃o,(ka,o)∈R∧o.data= .cell (some (.ref st))
noncomputable def CALp(w:World)(os:OsState)(lv:Nat)(ka st:Addr)(f:Heap→Value→Prop)(as:List D)(σ:Sg)(Q:D→Sg→Prop)(X:Addr→Sg→Prop):Prop:=
 ∀A fr g R s vf vs,KeepC ka st R→Room A fr lv→FrOK fr R→Rel w g R σ s.heap→Wd w g→s.gens= #[]→s.os=os→f g vf→DVs g as vs→codeAny (model pw w) A (.call vf ⟨vs,[]⟩) (CallPost w os g R Q X) s
abbrev FNp(w:World)(os:OsState)(lv:Nat)(ka st:Addr)(a:Addr)(as:List D)(σ:Sg)(Q:D→Sg→Prop)(X:Addr→Sg→Prop):Prop:=CALp w os lv ka st (λ_ v=>v= .ref a) as σ Q X
noncomputable def qDT(w:World)(os:OsState)(lv:Nat)(A:Around)(fr:List Env)(env:Env)(kp:Option Addr):Cx:=
 {w:=w,A:=A.deeper env,fr:=env::fr,env:=env,top:=true,bare:=true,lv:=lv,os:=os,kp:=kp}
section
variable {fr:List Env}{env:Env}{kp:Option Addr}
theorem St.call{h1:Heap}{tk:Nat}{m:Str→Option Value}{cls:String}(rm:Room A fr (lv+1))(fo:FrOK fr R)(rel:Rel w g R σ s.heap)(wd:Wd w g)(hgs:s.gens= #[])(hos:s.os=os)
  (hk:env.scope.kind= .function)(e1:env.globals=mainGlobals)(e2:env.builtins=builtinsNs)(e3:env.frame=some s.heap.objs.size)(e4:env.locals=s.heap.objs.size)
  (hns:h1.Ns s.heap.objs.size m)(hsb:Heap.SameBut s.heap.objs.size (s.heap.push {cls:=.type cls,data:=.dict #[]}) h1)
  (hloc:∀x d,ρ.lookup x=some d→env.kindOf x=some .local→∃v,m x=some v∧DV g d v)
  (hcel:∀x d,ρ.lookup x=some d→env.kindOf x=some .local∨((env.kindOf x=some .cell∨(env.kindOf x=some .free∧(x==("__classdict__":Str))=false)∨(x=qAj∧env.cells.lookup x=none))∧∃a o v,(qDT w os lv A fr env kp).cellAt x=some a∧(a,o)∈R∧o.data= .cell (some v)∧DV g d v))
  (hnc:∀y,env.kindOf y≠some .cell):∃oL,St (qDT w os lv A fr env kp) g R ρ σ [(s.heap.objs.size,oL)] {s with heap:=h1,toks:=tk}:=by
 obtain⟨oL,hoL,hnL⟩:=ns_obj hns
 have kl:Le s.heap h1:=λb o e=>hsb.extBut b o (Nat.ne_of_lt (Heap.lt_size e)) (Heap.get?_push_of_some _ e)
 have rel1:Rel w g ([(s.heap.objs.size,oL)]++R) σ h1:=rel.addPriv kl (by simp) λp hp=>by
  rw[List.mem_singleton.mp hp]
  exact⟨qAM _,hoL⟩
 refine⟨oL,⟨λ_=>rm.hh,?_,?_,?_,e1,e2,hk,λ_=>⟨fr,rfl⟩,rm.gd⟩,rel1,wd,hgs,hos,⟨(y23 oL m ?_ hnL hloc),λx d e=>?_,λ_ y hy=>absurd hy (hnc y),λy z b hy hz=>absurd hz (hnc z),λy z b hy=>absurd hy (hnc y)⟩,λe he=>?_⟩
 ·show A.frames.map _=_;rw[rm.hf];rfl
 ·exact rmE rm.hd
 ·exact rmF rm.hu
 ·show(env.locals,oL)∈_;rw[e4];exact List.mem_cons_self
 ·exact qDq (hcel x d e) (λ_ _ _ _ _ _=>List.mem_cons_of_mem _) λ_ h=>h
 ·rcases List.mem_cons.mp he with rfl|he
  ·refine⟨by rw[hk];exact λz=>(nomatch z),s.heap.objs.size,oL,e3,List.mem_cons_self,?_⟩
   obtain⟨es,ep,q,_⟩:=hnL;exact(y21 es ep q)
  ·obtain⟨k,L,o,hf,hm,r⟩:=fo e he
   exact⟨k,L,o,hf,List.mem_cons_of_mem _ hm,r⟩
end
theorem qHV{ka st:Addr}{params:Arguments}{body:Expr}{scope:Scope}{k:Str}{pm ctv:Value}{cc:Addr}
  (hb:∀v,bindArgs (kla_fn "<lambda>" lamQ params body scope [(k,ka)] pm (.ref cc) ctv) ⟨[v],[]⟩=pure [(x,v)])
  (hs:scope.names.lookup x=some .local∧scope.names.lookup k=some .free∧scope.kind= .function∧scope.isCoroutine=false∧scope.isGenerator=false)(hnc:∀y∈scope.names,y.2≠.cell)
  (hk:(k==("__classdict__":Str))=false)(hxk:x≠k)
  (h:∀A fr L a,WE (qDT w os lv A fr (newEnv scope L mainGlobals [(k,ka)] (lamQ++".<locals>.") (some a) (.ref cc) none builtinsNs) none) body [(k,.obj st),(x,d)] σ Q X):
  CALp w os (lv+1) ka st (λg v=>DV g (.fn (kla_obj "<lambda>" lamQ params body scope [(k,ka)] pm cc ctv)) v) [d] σ Q X:=by
 intro A fr g R s vf vs hkc rm fo rel wd hgs hos hf dvs
 obtain⟨v1,rfl,d1⟩:=dvs.one
 cases hf with| @fn a _ fd ha hfd hcr=>?_
 injection hfd with hfd;subst hfd
 obtain⟨oc,hoc,hocd⟩:=hkc
 refine kla_callFunE (Nat.lt_of_lt_of_le (Nat.lt_of_le_of_lt (Nat.le_add_right _ _) rm.hd) (by decide)) (rel.keep _ _ ha) rfl hs.2.2.2.1 hs.2.2.2.2 rfl (hcr.keeps rel.keep) ?_
 rw[hb]
 refine wpAny_pure (wpAny_newFunctionEnv hnc (λy hy=>?_) (λh1 hns hsb=>?_) hs.2.2.1)
 ·rw[List.mem_singleton.mp hy];exact hs.1
 have kl:Le s.heap h1:=λb o e=>hsb.extBut b o (Nat.ne_of_lt (Heap.lt_size e)) (Heap.get?_push_of_some _ e)
 refine⟨wd.lim.keeps (rel.keep.trans kl),?_⟩
 refine kla_codeExpr ?_
 have hlk:∀y:Str,y≠k→List.lookup y [(k,ka)]=none:=λy n=>by
  rw[List.lookup_cons,beq_eq_false_iff_ne.mpr n];rfl
 obtain⟨oL,S⟩:=St.call (env:=newEnv scope s.heap.objs.size mainGlobals [(k,ka)] (lamQ++".<locals>.") (some a) (.ref cc) none builtinsNs) (kp:=none) (ρ:=[(k,.obj st),(x,d)]) (tk:=s.toks+1) rm fo rel wd hgs hos hs.2.2.1 rfl rfl rfl rfl hns hsb
  (λy e he hy=>by
   by_cases z:y=k
   ·subst z;exact absurd (hy.symm.trans hs.2.1) (by simp)
   ·rw[List.lookup_cons,beq_eq_false_iff_ne.mpr z]at he
    by_cases z2:y=x
    ·subst z2
     rw[List.lookup_cons,beq_self_eq_true]at he
     injection he with he;subst he
     exact(y12 v1 (by simp[List.lookup]) d1)
    ·rw[List.lookup_cons,beq_eq_false_iff_ne.mpr z2]at he;cases he)
  (λy e he=>by
   by_cases z:y=k
   ·subst z
    rw[List.lookup_cons,beq_self_eq_true]at he
    injection he with he;subst he
    exact .inr ⟨.inr (.inl ⟨hs.2.1,hk⟩),ka,oc,.ref st,Cx.cellAt_of (show List.lookup y [(y,ka)]=some ka by rw[List.lookup_cons,beq_self_eq_true]),hoc,hocd,.obj _⟩
   ·rw[List.lookup_cons,beq_eq_false_iff_ne.mpr z]at he
    by_cases z2:y=x
    ·subst z2;exact .inl hs.1
    ·rw[List.lookup_cons,beq_eq_false_iff_ne.mpr z2]at he;cases he)
  (λy hy=>hnc (y,.cell) (mem_of_lookup hy) rfl)
 refine wpAny_mono ((h A fr _ a).go g R _ _ S) (λv s2 p9=>p9.el λg2 dr σ2 l2 S2 dv q=>?_) λev s2 p=>p.leaves rfl
 exact(.mk g2 dr σ2 l2 (S2.rel.sublist (List.sublist_append_right _ R)) S2.gens S2.os dv q)
theorem zip_look{y:Str}{ns:List Str}(D:DVs g ds vs)(h:(ns.zip ds).lookup y=some d):∃v,(ns.zip vs).lookup y=some v∧DV g d v:=by
 induction ns generalizing ds vs with
 |nil=>cases h
 |cons n ns ih=>
  cases ds with
  |nil=>cases h
  |cons e ds=>
   refine D.on λv vs dv dvs=>?_
   rw[List.zip_cons_cons,List.lookup_cons]at h ⊢
   cases q:y==n with
   |true=>rw[q]at h;rw[←Option.some.inj h];exact(y12 v rfl dv)
   |false=>rw[q]at h;exact ih dvs h
theorem qHB{α:Type}{y:Str}{v:α}{l:List (Str × α)}(h:l.lookup y=some v):(y,v)∈l:=by
 induction l with
 |nil=>cases h
 |cons p r ih=>
  cases p with|mk n u=>
  rw[List.lookup_cons]at h
  cases q:y==n with
  |true=>rw[q]at h;rw[←Option.some.inj h,beq_iff_eq.mp q];exact .head _
  |false=>rw[q]at h;exact .tail _ (ih h)
theorem qHr{α:Type}{y:Str}{v:α}{l:List (Str × α)}(nd:(l.map (·.1)).Nodup)(h:(y,v)∈l):l.lookup y=some v:=by
 induction l with
 |nil=>cases h
 |cons p r ih=>
  cases p with|mk n u=>
  rw[List.map_cons,List.nodup_cons]at nd
  rw[List.lookup_cons]
  rcases List.mem_cons.mp h with e|h
  ·rw[(Prod.mk.inj e).1,(Prod.mk.inj e).2,beq_self_eq_true]
  ·have:y≠n:=λq=>nd.1 (q▸List.mem_map_of_mem (f:=(·.1)) h)
   rw[beq_eq_false_iff_ne.mpr this];exact ih nd.2 h
theorem qIL{ns:List Str}(h:ns.Nodup):((ns.zip vs).map (·.1)).Nodup:=by
 induction ns generalizing vs with
 |nil=>exact .nil
 |cons n ns ih=>
  cases vs with
  |nil=>exact .nil
  |cons v vs=>
   have:=List.nodup_cons.mp h
   exact List.nodup_cons.mpr ⟨λq=>this.1 (qBc q),ih this.2⟩
theorem qJe{ka stA:Addr}{st:Stmt}{name qual:Str}{dV pm:Value}{cd:Addr}(ns:List Str)
  (hK:(KF w.params).lookup a=some (fnO st name qual dV pm cd))(hcd:(cd,qual)∈codeT)
  (hb:∀(g:Heap) (s:Shared) vs,Wd w g→Le g s.heap→DVs g as vs→∃as' vs',DVs g as' vs'∧BindsTo s (fdOf st name qual dV pm cd) ⟨vs,[]⟩ (ns.zip vs')∧
   ∀A fr L,STs (qDT w os lv A fr (newEnv (qA3 st) L mainGlobals [] (qual++".<locals>.") (some a) (.ref cd) none builtinsNs) (some ka)) (qBs st) ((qAj,.obj stA)::ns.zip as') σ (λ_ τ=>Q .none τ) Q (λ_=>X))
  (hnd:ns.Nodup:=by decide+kernel)(hkind:∀x∈ns,(qA3 st).names.lookup x=some .local:=by decide+kernel)
  (hnc:∀x∈(qA3 st).names,x.2≠.cell:=by decide+kernel)(hkp:(qA3 st).names.lookup qAj=none:=by decide+kernel)
  (hk:autoParam (.function=(qA3 st).kind) auR)(hco:autoParam (false=(qA3 st).isCoroutine) auR)(hgen:autoParam (false=(qA3 st).isGenerator) auR):FNp w os (lv+1) ka stA a as σ Q X:=by
 intro A fr g R s vf vs hkc rm fo rel wd hgs hos e dvs
 subst e
 obtain⟨oc,hoc,hocd⟩:=hkc
 obtain⟨as',vs',dvs',hbind,body⟩:=hb g s vs wd rel.keep dvs
 have wds:=wd.mono rel.keep
 refine codeAny_call_function (fd:=fdOf st name qual dV pm cd) (Nat.lt_of_lt_of_le (Nat.lt_of_le_of_lt (Nat.le_add_right _ _) rm.hd) (by decide)) (wds.K _ _ hK) rfl hco.symm hgen.symm rfl (wds.code _ hcd) (hbind _ _ _ _ ?_)
 refine wpAny_newFunctionEnv hnc (λy hy=>hkind _ (qBc (List.mem_map_of_mem hy))) (λh1 hns hsb=>?_) hk.symm
 have kl:Le s.heap h1:=λb o e=>hsb.extBut b o (Nat.ne_of_lt (Heap.lt_size e)) (Heap.get?_push_of_some _ e)
 refine⟨wd.lim.keeps (rel.keep.trans kl),codeAny_func ?_⟩
 have nn:qAj∉ns:=λq=>by rw[hkind _ q]at hkp;cases hkp
 have look:∀y e,List.lookup y ((qAj,D.obj stA)::ns.zip as')=some e→(y=qAj∧e= .obj stA)∨(y≠qAj∧(ns.zip as').lookup y=some e):=λy e he=>by
  by_cases z:y=qAj
  ·subst z;rw[List.lookup_cons,beq_self_eq_true]at he;injection he with he;exact .inl ⟨rfl,he.symm⟩
  ·rw[List.lookup_cons,beq_eq_false_iff_ne.mpr z]at he;exact .inr ⟨z,he⟩
 have back:∀(y:Str) (v:Value),List.lookup y (ns.zip vs')=some v→List.lookup y (ns.zip vs').reverse=some v:=λy v e=>by
  have e2:(y,v)∈ns.zip vs':=qHB (α:=Value) e
  refine qHr ?_ (List.mem_reverse.mpr e2)
  rw[List.map_reverse]
  exact(List.reverse_perm _).nodup_iff.mpr (qIL hnd)
 obtain⟨oL,S⟩:=St.call (env:=newEnv (qA3 st) s.heap.objs.size mainGlobals [] (qual++".<locals>.") (some a) (.ref cd) none builtinsNs) (kp:=some ka) (ρ:=(qAj,.obj stA)::ns.zip as') (tk:=s.toks+(ns.zip vs').length) rm fo rel wd hgs hos hk.symm rfl rfl rfl rfl hns hsb
  (λy e he hy=>by
   rcases look y e he with⟨rfl,_⟩| ⟨z,he⟩
   ·exact absurd (hy.symm.trans hkp) (by simp)
   ·obtain⟨v,hv,dv⟩:=zip_look dvs' he
    exact(y12 v (back _ _ hv) dv))
  (λy e he=>by
   rcases look y e he with⟨rfl,rfl⟩| ⟨z,he⟩
   ·exact .inr ⟨.inr (.inr ⟨rfl,rfl⟩),ka,oc,.ref stA,by unfold Cx.cellAt;rw[if_pos rfl];rfl,hoc,hocd,.obj _⟩
   ·exact .inl (hkind y (List.of_mem_zip (qHB he)).1))
  (λy hy=>hnc (y,.cell) (mem_of_lookup hy) rfl)
 exact wpAny_mono ((body A fr _).go g R _ _ S) (λfl s2 p=>by cases fl <;> exact PF.leaves p) λev s2 p9=>p9.el λ_ _ p=>p.leaves rfl
section
theorem Kept_fn'{fd:FuncData}(e:o.data= .func fd):Kept c (.fn o):=λg h v wd dv k=>by
 refine dv.on λ_ _ ho _ _=>?_
 refine(y12 .frame (.inl rfl) ((Looks.ld (part:=none) (k _ _ ho)).andThen ?_))
 rw[e];exact .now
theorem OC_p{f:D}{F:Heap→Value→Prop}{ka st:Addr}(hb:c.bare=true)(hl:lv≤c.lv)(hf:∀g v,DV g f v→F g v)
  (hkeep:∀g R own s,St c g R ρ σ own s→KeepC ka st (own++R))(h:CALp c.w c.os lv ka st F as σ Q X):OC c f as ρ σ Q X:=.mk λg R own s vf vs S dv dvs=>by
 exact S.calls (h c.A c.fr g (own++R) s _ vs (hkeep g R own s S) (S.room hb hl) S.frs S.rel S.wd S.gens S.os (hf _ _ dv) dvs)
theorem keep_kp{ka st:Addr}(hk:c.kp=some ka)(e:ρ.lookup qAj=some (.obj st))(h1:c.env.kindOf qAj=none)(h2:c.env.cells.lookup qAj=none):∀g R own s,St c g R ρ σ own s→KeepC ka st (own++R):=λg R own s S=>by
 rcases S.locs.cel _ _ e with k| ⟨_,a,o,v,e1,e2,e3,dv⟩
 ·rw[h1]at k;cases k
 ·unfold Cx.cellAt at e1
  rw[h2,if_pos rfl,hk]at e1
  have e1:some ka=some a:=e1
  injection e1 with e1;subst e1
  revert e3
  exact dv.on λ_ e3=>(y12 o e2 e3)
theorem qHF{ka st:Addr}(hk:c.env.cells.lookup x=some ka)(e:ρ.lookup x=some (.obj st))(h1:c.env.kindOf x=some .cell):∀g R own s,St c g R ρ σ own s→KeepC ka st (own++R):=λg R own s S=>by
 rcases S.locs.cel _ _ e with k| ⟨_,a,o,v,e1,e2,e3,dv⟩
 ·rw[h1]at k;cases k
 ·rw[Cx.cellAt_of hk]at e1
  injection e1 with e1;subst e1
  revert e3
  exact dv.on λ_ e3=>(y12 o e2 e3)
end
theorem do_get(P:Params):(specialIn (KF P) (.ref 675) "__get__"==some (some (.builtin "function.__get__")) && takesIn (KF P) (.ref 675)==some false && plainGet (KF P) 685 "do" && hasDictIn (KF P) 685)=true:=by kernel_rfl
section
theorem qFf{fs:List (Str × D)}{es:List DictEntry}(h:Flds g fs es)(e:fs.lookup x=none):getL x es=some none:=by
 unfold getL
 rw[h.none e]
 have:=h.noRef
 first
  |rfl
  |simp[this]
theorem qJq{fs:List (Str × D)}(h:σ a=some (.inst 685 fs))(hl:fs.lookup ("do":Str)=none)(q:Q (.raw (methodObj (.ref 675) (.ref a))) σ):
  O1 c (λv=>getAttr v "do" true) (.obj a) ρ σ Q X:=.mk λg R own s v S dv=>by
 refine dv.on λ_=>?_
 obtain⟨h1,es,n,h2,hf⟩:=S.inst h
 have I:InstAt s.heap a (instObj 685 (a - 1)) 685 (some (dictOf es n)):=⟨h1,rfl,rfl,h2⟩
 have K:=S.wd.K.keeps S.rel.keep
 have k:=do_get c.w.params
 simp only[Bool.and_eq_true,beq_iff_eq]at k
 obtain⟨m1,m2,m3⟩:=mth_of (P:=c.w.params) (C:=685) (f:=675) (x:="do") (by decide+kernel)
 refine get_bind K I (plainGet_of k.1.2).1 (findObj_fn k.2 m1 k.1.1.1 k.1.1.2 (by decide+kernel) (by show lookIn _ (dictOf es n)=_;rw[lookIn_dict,qFf hf hl])) (plainGet_of k.1.2).2
  (wpAny_call (fn_get (s:= {s with toks:=s.toks+1}) K m2 (handed_on rfl ?_)))
 obtain⟨g2,l2,S2,e⟩:=S.newObj (o:=methodObj (.ref 675) (.ref a)) rfl
 exact(.mk g2 _ σ l2 (S2.toks _) (.raw e) q)
theorem qIG{f:Addr}{fd:FuncData}(hK:(KF c.w.params).lookup f=some o)(hd:o.data= .func fd):Kept c (.raw (methodObj (.ref f) v)):=λg h u wd dv k=>by
 refine dv.on λ_ ho=>?_
 refine(y12 .boundFrame (.inr (.inr rfl)) ((Looks.ld (part:=none) (k _ _ ho)).andThen ?_))
 show Looks _ _ (loadPart f none >>=λo=>pure (match o.data with| .func _=>Keeper.boundFrame|_=>.caller)) _
 refine(Looks.ld (wd.K.keeps k _ _ hK)).andThen ?_
 rw[hd];exact .now
theorem qJd{f:Addr}(hb:c.bare=true)(hl:lv≤c.lv)(h:FNc c.w c.os lv f (.obj a::as) σ Q X):OCc c (.raw (methodObj (.ref f) (.ref a))) as ρ σ Q X:=.mk λg R own s vf vs S dv dvs=>by
 refine dv.on λb ho=>?_
 refine S.callsC ?_
 refine qAh rfl ?_
 show wpC _ c.A.in1 (callAny (.ref b) ⟨vs,[]⟩) _ _ _
 refine qA2 (wpAny_load (S.rel.keep _ _ ho) ?_)
 exact qA8 ⟨rfl,h c.A c.fr g (own++R) s _ (.ref a::vs) (S.room hb hl) S.frs S.rel S.wd S.gens S.os rfl (.cons (.obj a) dvs)⟩
end
noncomputable def qHM(K:Frag)(C:Addr):Bool:=findIn K (.ref C) "__getattribute__"==some (some (.builtin "BaseException.__getattribute__")) && hasDictIn K C && findIn K (.ref C) "what"==some none && findIn K (.ref C) "at"==some none && findIn K (.ref C) "__getattr__"==some none && mroIn K C (.type "BaseException")==some true
theorem qIv(P:Params):excL.all (qHM (KF P))=true:=by kernel_rfl
theorem ga_slot:Slot "Exception" "__getattribute__" "BaseException.__getattribute__":=
 .of (owner:="BaseException") (n:="__getattribute__") (by rw[typeLookup_type,builtinLookup_eq_fast];kernel_rfl) (by decide+kernel) (by decide+kernel) (by decide+kernel)
  (by first|exact .inl (by decide+kernel)|exact .inr (by decide+kernel)) (by rw[isSubtype_type];kernel_rfl)
theorem ga_kind:builtinKind "BaseException.__getattribute__"=some .slot:=by decide+kernel
theorem ga_split:splitId "BaseException.__getattribute__"=some ("BaseException","__getattribute__"):=by decide+kernel
theorem ga_ne:(Value.builtin "BaseException.__getattribute__"==Value.builtin "object.__getattribute__")=false:=by decide+kernel
section
theorem exc_get{dx C:Addr}{vs:Array Value}{sl:Array (Option Value)}{es:List DictEntry}{fs:List (Str × D)}{Q:Value→Shared→Prop}(X:(KF w.params).In s.heap)
  (h1:s.heap.get? a=some ⟨.ref C,some dx,.fields vs,sl⟩)(h2:s.heap.get? dx=some (dictOf es n))(hf:Flds g fs es)
  (hC:C∈excL)(hx:x="what"∨x="at")(hl:fs.lookup x=some d)(hd:d.flat=true)(h:∀v,DV g d v→Q v {s with toks:=s.toks+1}):wpAny (model pw w) A (getAttr (.ref a) x true) Q E s:=by
 obtain⟨e,he,dv⟩:=hf.find hl
 have ck:=List.all_eq_true.mp (qIv w.params) C hC
 unfold qHM at ck
 simp only[Bool.and_eq_true,beq_iff_eq]at ck
 have I:InstAt s.heap a ⟨.ref C,some dx,.fields vs,sl⟩ C (some (dictOf es n)):=⟨h1,rfl,rfl,h2⟩
 have hn:findIn (KF w.params) (.ref C) x=some none:=by
  rcases hx with rfl|rfl
  ·exact ck.1.1.1.2
  ·exact ck.1.1.2
 have hfo:findObj (KF w.params) C (some (dictOf es n)) x=some (.value e.val):=findObj_own ck.1.1.1.1.2 hn rfl (by rw[lookIn_dict];unfold getL;rw[he])
 have hh:handedIn e.val=true:=dv.handed hd
 have q:=h _ dv
 obtain⟨hp,gs,dr,tk,os⟩:=s
 have L0:=I.type (M:=model pw w)
 have L1:=looks_findIn (M:=model pw w) X ck.1.1.1.1.1
 have L2:=looks_findIn (M:=model pw w) X ck.1.2
 have L3:=looks_find (M:=model pw w) X I hfo
 have sub:Looks (model pw w) hp (isInstance (.ref a) (.type "BaseException")) true:=L0.andThen (looks_mroIn X ck.2)
 refine wpAny_bind (wpAny_mkText (wpAny_holding (wpAny_bind (L0.at (wpAny_bind (L1.at ?_))))))
 show wpAny _ _ (if(onTheHeap (.ref C) && Value.builtin "BaseException.__getattribute__"== .builtin "object.__getattribute__")=true then _ else _) _ _ _
 rw[ga_ne,Bool.and_false]
 refine bm_if_false rfl ?_
 refine wpAny_bind ?_
 show wpAny _ _ (typeLookup (.ref C) "__getattr__") _ _ _
 refine L2.at ?_
 refine wpAny_bind (wpAny_attempt (wpAny_holding ?_))
 show wpAny _ _ (boundAndCalled _ _ _) _ _ _
 refine wpAny_bind (wpAny_of_eq (ga_slot.bind _) ?_)
 refine wpAny_call (codeAny_call_builtin ga_slot.plain PySem.F.entry_bexc_ga (@check_slot (model pw w) _ _ _ "BaseException.__getattribute__" "BaseException" "__getattribute__" (.ref a) [.str x tk] [] _ ga_kind ga_split sub (PySem.F.args_bexc_ga _ _) ?_))
 unfold Builtin.«object.__getattribute__»
 refine wpAny_bind (wpAny_of_eq (a:=(.ref a,[.str x tk])) rfl ?_)
 refine wpAny_bind (wpAny_of_eq (a:=x) rfl ?_)
 refine wpAny_bind (L0.at (wpAny_bind (L3.at (wpAny_pure ?_))))
 show wpAny _ _ (handedOut _) _ _ _
 rw[handedOut_of hh]
 exact wpAny_pure q
end
structure RoomH(A:Around)(fr:List Env)(lv:Nat):Prop where
 hf:A.frames=some fr
 hd:A.depth+lv < 900
 hu:A.units+10 * lv+300 < cLine
 gd:A.guards=some []
noncomputable def CALh(w:World)(os:OsState)(lv:Nat)(f:Value→Prop)(as:List D)(σ:Sg)(Q:D→Sg→Prop)(X:Addr→Sg→Prop):Prop:=
 ∀A fr g R s vf vs,RoomH A fr lv→FrOK fr R→Rel w g R σ s.heap→Wd w g→s.gens= #[]→s.os=os→f vf→DVs g as vs→codeAny (model pw w) A (.call vf ⟨vs,[]⟩) (CallPost w os g R Q X) s
abbrev FNh(w:World)(os:OsState)(lv:Nat)(a:Addr)(as:List D)(σ:Sg)(Q:D→Sg→Prop)(X:Addr→Sg→Prop):Prop:=CALh w os lv (λv=>v= .ref a) as σ Q X
noncomputable def cxOfH(w:World)(os:OsState)(lv:Nat)(fd:FuncData)(a:Addr)(A:Around)(fr:List Env)(L:Addr):Cx:=
 {w:=w,A:=A.deeper (callEnvC fd L a),fr:=callEnvC fd L a::fr,env:=callEnvC fd L a,top:=true,bare:=false,lv:=lv,os:=os}
section
theorem OCh_fn(hl:lv≤c.lv)(h:FNh c.w c.os lv a as σ Q X):OC c (.obj a) as ρ σ Q X:=.mk λg R own s vf vs S dv dvs=>by
 refine dv.on λ_=>?_
 have rm:RoomH c.A c.fr lv:=⟨S.ok.hf,rmD hl S.ok.hd,rmU hl S.ok.hu,S.ok.gd⟩
 exact S.calls (h c.A c.fr g (own++R) s _ vs rm S.frs S.rel S.wd S.gens S.os rfl dvs)
end
theorem qJf{st:Stmt}{name qual:Str}{dV pm:Value}{cd:Addr}(ns:List Str)
  (hK:(KF w.params).lookup a=some (fnO st name qual dV pm cd))(hcd:(cd,qual)∈codeT)
  (hb:∀(g:Heap) (s:Shared) vs,Wd w g→Le g s.heap→DVs g as vs→∃as' vs',DVs g as' vs'∧BindsTo s (fdOf st name qual dV pm cd) ⟨vs,[]⟩ (ns.zip vs')∧
   ∀A fr L,STs (cxOfH w os lv (fdOf st name qual dV pm cd) a A fr L) (qBs st) (ns.zip as') σ (λ_ τ=>Q .none τ) Q (λ_=>X))
  (hnd:ns.Nodup:=by decide+kernel)(hkind:∀x∈ns,(qA3 st).names.lookup x=some .local∨(qA3 st).names.lookup x=some .cell:=by decide+kernel)
  (hcn:((cellsFrom 0 (qA3 st).names []).map (·.1)).Nodup:=by decide+kernel)
  (hk:autoParam (.function=(qA3 st).kind) auR)(hco:autoParam (false=(qA3 st).isCoroutine) auR)(hgen:autoParam (false=(qA3 st).isGenerator) auR):FNh w os (lv+1) a as σ Q X:=by
 intro A fr g R s vf vs rm fo rel wd hgs hos e dvs
 subst e
 obtain⟨as',vs',dvs',hbind,body⟩:=hb g s vs wd rel.keep dvs
 have wds:=wd.mono rel.keep
 refine codeAny_call_function (fd:=fdOf st name qual dV pm cd) (Nat.lt_of_lt_of_le (Nat.lt_of_le_of_lt (Nat.le_add_right _ _) rm.hd) (by decide)) (wds.K _ _ hK) rfl hco.symm hgen.symm rfl (wds.code _ hcd) (hbind _ _ _ _ ?_)
 refine wpAny_newFunctionEnv_cells hk.symm (λx hx=>?_) λenv' he s1 x=>?_
 ·have hx':x.1∈ns:=qBc (List.mem_map_of_mem hx)
  exact(hkind _ hx').imp id λe=>⟨e,cellsFrom_some _ _ _ (.inl e)⟩
 subst he
 refine⟨wds.lim.keeps x.toInCall.keep,codeAny_func ?_⟩
 refine(St.callC (b:=false) (λz=>nomatch (z:false=true)) rm.hf rm.hd rm.hu rm.gd fo rel wd hgs hos rfl rfl hk.symm hnd hkind hcn dvs' x).elim λown S=>?_
 exact wpAny_mono ((body A fr s.heap.objs.size).go g R _ _ S) (λfl s2 p=>by cases fl <;> exact PF.leaves p) λev s2 p9=>p9.el λ_ _ p=>p.leaves rfl
theorem RoomH.tc{fr:List Env}{C:Addr}{l:List Value}(r:RoomH A fr (lv+1)):RoomH (A.under (.builtin "type.__call__" ⟨.ref C::l,[]⟩)) fr lv:=⟨r.hf,rmE r.hd,rmG r.hu,by unfold Around.under;rw[r.gd];rfl⟩
theorem CALh_exc{C:Addr}(hm:C∈excL)(hz:as.length≤sizeLine)
  (h:∀x,σ x=none→FNh w os lv 29 (.obj x::as) (σ.set x (.exc C none [])) (λd τ=>d= .none∧Q (.obj x) τ) X):FNh w os (lv+1) C as σ Q X:=by
 intro A fr g R s vf vs rm fo rel wd hgs hos e dvs
 subst e
 exact qHc hm hz rel wd dvs λx s1 hn rel' eg eo dv'=>h x hn _ fr g R s1 _ _ rm.tc fo rel' wd (eg.trans hgs) (eo.trans hos) rfl dv'
section
variable {C:Addr}{d2:D}
theorem fn29_3h(hC:C∈excL)(h:σ a=some (.exc C none []))(q:∀dx,Q .none (((σ.set a (.exc C none [])).set a (.exc C (some dx) [("what",d)])).set a (.exc C (some dx) [("what",d),("at",d2)]))):FNh w os (lv+1) 29 [.obj a,d,d2] σ Q X:=by
 refine qJf (st:=meAt 1 0) (name:="__init__") (qual:="PostError.__init__") (dV:=.ref 22) (pm:=.str "postkeep.errors" 187) (cd:=28) ["self","what","at"] rfl (by decide+kernel) (λg s vs wd k dvs=>?_)
 have:∃v1 v2 v3,vs= [v1,v2,v3]:=by refine dvs.on λ_ _ _ r=>?_;obtain⟨x,y,rfl,_⟩:=r.two;exact(y31 _ _ _ rfl)
 obtain⟨v1,v2,v3,rfl⟩:=this
 have h22:s.heap.get? 22=_:=wd.K.keeps k 22 _ rfl
 refine(y23 _ _ dvs (.of_defaults rfl h22 rfl rfl rfl) (λA fr L=>?_))
 walk_at"h"
 refine(.mk _ _ qEW qAD ?_)
 walk_at"h"
 refine qGL hC h ?_
 walk_at"h1"
 refine qGC ?_
 walk_at"h"
 refine(y25 a C rfl (Sg.set_same _ _ _) hC (.inl rfl) (λdx=>?_))
 walk_at"h1"
 refine qGB ?_
 walk_at"h"
 refine(y46 a C dx _ rfl (Sg.set_same _ _ _) hC (.inr rfl) (by simp) ?_)
 walk_at"h"
 exact q dx
end
section
open Sem (wp)
theorem qEb:entryFor table "proto.unchain"=some Builtin.«proto.unchain» :=entryFor_of_tree (by kernel_rfl)
def XRH.Ar(Z:Prop)(h0:Addr)(E:Value→Shared→Prop)(v:Value)(s₁:Shared):Prop:=∀(e C:Addr) (nm q:Str) (N:Addr) (a0:Value) (dx:Option Addr) (j0 j2 j3 j5:Option Value) (sl:Array (Option Value)) (oH:Obj) (vs:Array Value) (ev:v= .ref e) (hC:s₁.heap.get? C=some (xCls nm q C N j0 j2 j3 j5)) (he:s₁.heap.get? e=some ⟨.ref C,dx,.fields #[a0,.none,.none,.none,.bool false,.none],sl⟩) (hne:h0≠e) (hH:s₁.heap.get? h0=some oH) (hHd:oH.data= .fields vs) (hH2:vs[2]? =some .none) (hE:∀h',h'.get? e=some ⟨.ref C,dx,.fields #[a0,.none,.ref h0,.none,.bool false,.none],sl⟩→Heap.SameBut e s₁.heap h'→E (.ref e) {s₁ with heap:=h'}),Z
@[irreducible] def XRH (h0:Addr) (E:Value→Shared→Prop) (v:Value) (s₁:Shared):Prop:=∀Z,XRH.Ar Z h0 E v s₁→Z
theorem XRH.mk{h0:Addr}{s₁:Shared}:XRH.Ar (XRH h0 E v s₁) h0 E v s₁:=by delta XRH;exact λe C nm q N a0 dx j0 j2 j3 j5 sl oH vs ev hC he hne hH hHd hH2 hE _ k=>k e C nm q N a0 dx j0 j2 j3 j5 sl oH vs ev hC he hne hH hHd hH2 hE
theorem XRH.el{h0:Addr}{s₁:Shared}(h:XRH h0 E v s₁):XRH.Ar Z h0 E v s₁→Z:=by delta XRH at h;exact h Z
theorem qBm{env:Env}{x:Sem Value}{Q:Flow→Shared→Prop}{h0:Addr}(hh:A.handled=some (.ref h0))
  (h:wpAny (model pw w) A x (XRH h0 E) E s):
  wpAny (model pw w) A (raiseStmt env (some x) none) Q E s:=by
 unfold raiseStmt
 refine wpAny_bind (wpAny_mono h (λv s₁ h₁=>?_) λ_ _ x=>x)
 obtain⟨e,C,nm,q,N,a0,dx,j0,j2,j3,j5,sl,oH,vs,ev,hC,he,hne,hH,hHd,hH2,hE⟩:=h₁;subst ev
 obtain⟨hp,g,d,tk,os⟩:=s₁
 have hcB:(Value.ref C::bmX).contains (.type "BaseException")=true:=bmB
 have hcT:(Value.ref C::bmX).contains (.type "type")=false:=bmT
 repeat (first|with_reducible refine wpAny_loadPart_at he ?_|with_reducible refine wpAny_loadPart_at hC ?_| (with_reducible refine wpAny_isSubtype_exc hC ?_;first|rw[hcB]|rw[hcT])| (first|refine bm_if_true rfl ?_|refine bm_if_false rfl ?_|wp_step))
 unfold raiseNew
 refine wpAny_bind (wpAny_handled ?_)
 rw[hh]
 dsimp only
 rw[if_pos (show(Value.ref h0 !=Value.ref e)=true from by simp[hne])]
 have fin:wpAny (model pw w) A (updateField e 2 (.ref h0)) (λ_ s'=>E (.ref e) s') E ⟨hp,g,d,tk,os⟩:=by
  unfold updateField
  refine wpAny_bind (wpAny_load he ?_)
  dsimp only
  rw[if_pos (by first|decide|exact Nat.lt_of_lt_of_le (by decide:2 < 6) (Nat.le_of_eq rfl))]
  exact wpAny_update he (hE _ (Heap.get?_update_self _ he rfl) (Heap.SameBut.update ..))
 have un:∀{Q':Value→Shared→Prop} {E':Value→Shared→Prop},Q' .none ⟨hp,g,d,tk,os⟩→wpAny (model pw w) A (runValue (.builtin "proto.unchain" ⟨[.ref e,.ref h0,.ref h0,.bool false],[]⟩)) Q' E' ⟨hp,g,d,tk,os⟩:=λk=>by
  refine wpAny_runValue (codeAny_builtin qEb ?_)
  refine wpAny_bind (wpAny_field hH hHd hH2 ?_)
  rw[if_pos (by first|decide|exact Nat.lt_of_lt_of_le (by decide:2 < 6) (Nat.le_of_eq rfl))]
  exact wpAny_pure k
 first
  |exact wpAny_bind (wpAny_holding (un (wpAny_bind (wpAny_mono fin (λ_ _ z=>wpAny_throw z) λ_ _ z=>z))))
  |exact wpAny_bind (wpAny_bind (wpAny_holding (un (wpAny_mono fin (λ_ _ z=>wpAny_throw z) λ_ _ z=>z))))
  |(refine wpAny_bind ?_;exact wpAny_bind (wpAny_holding (un (wpAny_mono fin (λ_ _ z=>wpAny_throw z) λ_ _ z=>z))))
end
theorem x_RaiseH{env:Env}{x:Expr}{Q:Flow→Shared→Prop}{h0:Addr}(hh:A.handled=some (.ref h0))
  (h:wpAny (model pw w) A (eval x env) (XRH h0 E) E s):
  wpAny (model pw w) A (exec (.Raise (some x) none pos) env) Q E s:=by
 rw[arm_exec_Raise]
 first
  |exact wpAny_bind (wpAny_standAt (qBm hh (wpAny_bind (wpAny_mono h (λv s₁ h₁=>wpAny_bind (wpAny_standAt (wpAny_pure h₁))) λ_ _ x=>x))))
  |(simp only[evalOpt,Option.map];exact wpAny_bind (wpAny_standAt (qBm hh (wpAny_bind (wpAny_mono h (λv s₁ h₁=>wpAny_bind (wpAny_standAt (wpAny_pure h₁))) λ_ _ x=>x)))))
  |(show wpAny _ A (do standAt pos;raiseStmt env (some (do let v ←eval x env;standAt pos;pure v)) none) Q E s;exact wpAny_bind (wpAny_standAt (qBm hh (wpAny_bind (wpAny_mono h (λv s₁ h₁=>wpAny_bind (wpAny_standAt (wpAny_pure h₁))) λ_ _ x=>x)))))
theorem Rel.hold(x:Rel w g R σ h)(e:h.get? a=some o)(hg:g.get? a=none)(hf:Free R σ a):Rel w g ((a,o)::R) σ h:=by
 refine⟨x.keep,λp hp=>?_,?_,x.rep,λb p q c hc=>⟨(x.off b p q c hc).1,λm=>?_⟩,x.apart⟩
 ·rcases List.mem_cons.mp hp with rfl|hp
  ·exact⟨hg,.inl e⟩
  ·exact x.priv p hp
 ·rw[List.map_cons];exact List.nodup_cons.mpr ⟨hf.1,x.nodup⟩
 ·rw[List.map_cons]at m
  rcases List.mem_cons.mp m with z|m
  ·exact hf.2 b p q (by rw[show c=a from z]at hc;exact hc)
  ·exact(x.off b p q c hc).2 m
theorem FlyAt.heap{st:Option (Option Addr)}{e C:Addr}(F:FlyAt g R σ st e C h)(k:∀b ob,Free R σ b→h.get? b=some ob→h'.get? b=some ob):FlyAt g R σ st e C h':=F.turn (λ_ x=>x) k
theorem FlyAt.keys{R':Pv}{st:Option (Option Addr)}{e C:Addr}(F:FlyAt g R σ st e C h)(k:R'.map (·.1)=R.map (·.1)):FlyAt g R' σ st e C h:=F.turn (λb x=>⟨by rw[k];exact x.1,x.2⟩) λ_ _ _ h=>h
section
theorem St.hold(S:St c g R ρ σ own s)(e:s.heap.get? a=some o)(hg:g.get? a=none)(hf:Free (own++R) σ a):St c g ((a,o)::R) ρ σ own s:=by
 have pm:(own++(a,o)::R).Perm ((a,o)::(own++R)):=List.perm_middle
 have r:=S.rel.hold e hg hf
 have mv:∀{q:Addr × Obj},q∈own++R→q∈own++(a,o)::R:=λh=>pm.symm.subset (List.mem_cons_of_mem _ h)
 exact S.to (r.subl (λp hp=>pm.subset hp) ((pm.map (·.1)).nodup_iff.mpr r.nodup)) λhq _=>mv hq
theorem St.names{tk:Nat}{m':Str→Option Value}(S:St c g R ρ σ own s)(hns:h'.Ns c.env.locals m')(hs:Heap.SameBut c.env.locals s.heap h'):
  ∃own',own'.map (·.1)=own.map (·.1)∧St c g R [] σ own' {s with heap:=h',toks:=tk}:=by
 obtain⟨o,m,hm,hn,r⟩:=S.locs.loc
 obtain⟨o',ho',hno⟩:=ns_obj hns
 have R':R.map (λp=>if p.1=c.env.locals then(c.env.locals,o')else p)=R:=qBd λq=>by
  have nd:=S.rel.nodup
  rw[List.map_append,List.nodup_append]at nd
  exact nd.2.2 _ (List.mem_map_of_mem (f:=(·.1)) hm) _ q rfl
 have rel:=S.rel.set (List.mem_append_left R hm) hs ho'
 rw[List.map_append,R']at rel
 have cd:∀{ob:Obj} {z:Option Value},ob.data= .cell z→ob.data≠o.data:=λ{ob z} e=>by
  obtain⟨es,ep,hd,_⟩:=hn;rw[hd,e];exact λq=>by cases q
 refine(y12 (own.map λp=>if p.1=c.env.locals then(c.env.locals,o')else p) (qBz own c.env.locals o') ⟨S.ok,rel,S.wd,S.gens,S.os,⟨(y23 o' m' (qEI hm) hno (λy e he=>by simp at he)),λy e he=>by simp at he,λht y hy=>?_,S.locs.free,S.locs.inj⟩,λe he=>?_⟩)
 ·obtain⟨a,oc,vv,e1,e2,e3⟩:=S.locs.mine ht y hy
  refine(y33 a oc vv e1 ?_ e3)
  exact qBn e2 λz=>cd e3 (by subst z;exact congrArg Obj.data (qC2 S.rel.nodup (List.mem_append_left R e2) (List.mem_append_left R hm)))
 ·obtain⟨k,L,ob,hf,hm',hd⟩:=S.frs e he
  by_cases z:L=c.env.locals
  ·subst z
   refine⟨k,c.env.locals,o',hf,List.mem_append_left _ (qEI hm),?_⟩
   obtain⟨es,ep,hd,_⟩:=hno;exact(y21 es ep hd)
  ·refine⟨k,L,ob,hf,?_,hd⟩
   rcases List.mem_append.mp hm' with q|q
   ·exact List.mem_append_left _ (qBn q z)
   ·exact List.mem_append_right _ q
theorem qHq{d1 d2:D}(hl:3≤c.lv):OC c (.obj 76) [d1,d2] ρ σ (λd τ=>∃a dx,d= .obj a∧τ a=some (.exc 76 (some dx) [("what",d1),("at",d2)])∧τ.del a=σ) X:=
 OCh_fn (lv:=3) hl (CALh_exc (by decide) (show 2≤sizeLine by decide) λx hx=>fn29_3h (C:=76) (by decide) (Sg.set_same _ _ _) λdx=>⟨rfl,x,dx,rfl,Sg.set_same _ _ _,by
  funext b
  unfold Sg.del Sg.set
  by_cases k:b=x
  ·simp[k,hx]
  ·simp[k]⟩)
end
section
variable {X:Ro→Addr→Sg→Prop}
theorem qFe{ea dx C:Addr}{vs:Array Value}{sl:Array (Option Value)}{es:List DictEntry}{m:Nat}{fs:List (Str × D)}{n at_:Str}{p1 p2:Pos}{Q:Value→Shared→Prop}
  (S:St c g ((ea,⟨.ref C,some dx,.fields vs,sl⟩)::R) ρ σ own s)(hρ:ρ.lookup n=some (.obj ea))(hdx:g.get? dx=some (dictOf es m))(hf:Flds g fs es)(hC:C∈excL)(hx:at_="what"∨at_="at")(hl:fs.lookup at_=some d)(hd:d.flat=true)
  (hk:true=okN n)
  (h:∀g' v s',Le g g'→St c g' ((ea,⟨.ref C,some dx,.fields vs,sl⟩)::R) ρ σ own s'→DV g' d v→Q v s'):wpAny (model pw c.w) c.A (eval (.Attribute (.Name n p1) at_ p2) c.env) Q E s:=by
 refine Attribute_any_ ((WE_name (Q:=λd τ=>d= .obj ea∧τ=σ) (X:=λ_ _=>False) hρ ⟨rfl,rfl⟩ hk).use S (λg1 d1 τ v s1 l1 S1 dv q=>?_) λev s1 x=>?_) rfl
 ·obtain⟨rfl,rfl⟩:=q
  refine dv.on λ_=>?_
  have pm:=(S1.rel.priv (ea,⟨.ref C,some dx,.fields vs,sl⟩) (List.mem_append_right _ List.mem_cons_self)).2
  have h1:s1.heap.get? ea=some ⟨.ref C,some dx,.fields vs,sl⟩:=by
   rcases pm with e| ⟨⟨es',ep,q⟩,_⟩
   ·exact e
   ·cases q
  exact exc_get (S1.wd.K.keeps S1.rel.keep) h1 (S1.rel.keep _ _ (l1 _ _ hdx)) (hf.mono l1) hC hx hl hd λv dv=>h g1 v _ l1 (S1.toks _) dv
 ·exact x.no
theorem qIN{n F:Str}{p1 p2 p3 p4 fp cp rp:Pos}{ea dx C:Addr}{oE:Obj}{a0 tb:Value}{sl:Array (Option Value)}{es:List DictEntry}{m:Nat}{d1 d2:D}{Q:Flow→Shared→Prop}(hoE:⟨.ref C,some dx,.fields #[a0,tb,.none,.none,.bool false,.none],sl⟩=oE)
  (S5:St (c.under ea) g ((ea,oE)::R) ρ σ own s)(hρ:ρ.lookup n=some (.obj ea))(hdx:g.get? dx=some (dictOf es m))(hfl:Flds g [("what",d1),("at",d2)] es)(hT:C∈excL)(fl1:d1.flat=true)(fl2:d2.flat=true)(hl:3≤c.lv)
  (kF:c.env.kindOf F=some .globalImplicit)(eF:globV.lookup F=some (.ref 76))(hdF:false=(F==("__debug__":Str)))(hnk:true=okN n)
  (k:∀a g7 s8,Le g g7→St (c.under ea) g7 ((ea,oE)::R) ρ σ own s8→FlyAt g7 (own++(ea,oE)::R) σ none a 76 s8.heap→E (.ref a) s8):
  wpAny (model pw c.w) (c.under ea).A (execs [.Raise (some (.Call (.Name F fp) [.Attribute (.Name n p1) "what" p2,.Attribute (.Name n p3) "at" p4] [] cp)) none rp] c.env) Q E s:=by
 refine wpAny_execs_cons (x_RaiseH (h0:=ea) rfl (Call_ (qDa (c:=c.under ea) S5 kF eF ?_ hdF) rfl))
 have hw:∀{P:List Value→Shared→Prop} {E':Value→Shared→Prop},(∀g' v1 v2 s',Le g g'→St (c.under ea) g' ((ea,oE)::R) ρ σ own s'→DV g' d1 v1→DV g' d2 v2→P [v1,v2] s')→
   wpAny (model pw c.w) (c.under ea).A (spliced (backTo cp (starEach [.Attribute (.Name n p1) "what" p2,.Attribute (.Name n p3) "at" p4] c.env))) P E' s:=λk=>by
  subst hoE
  exact args_cons (qFe (c:=c.under ea) S5 hρ hdx hfl hT (.inl rfl) rfl fl1 hnk λg2 v1 s6 l6 S6 dv1=>args_cons (qFe (c:=c.under ea) S6 hρ (l6 _ _ hdx) (hfl.mono l6) hT (.inr rfl) rfl fl2 hnk λg3 v2 s7 l7 S7 dv2=>args_nil (k g3 v1 v2 s7 (l6.trans l7) S7 (dv1.mono l7) dv2)) rfl) rfl
 have kp:=Kept_exc (c:=c.under ea) (C:=76)
 have hw':=hw (P:=λvs s2=>Kp (model pw c.w) s2.heap (.ref 76)∧wpAny (model pw c.w) (c.under ea).A (call (.ref 76) ([]++vs)) (PE (c.under ea) g ((ea,oE)::R) ρ own λd τ=>∃a dx,d= .obj a∧τ a=some (.exc 76 (some dx) [("what",d1),("at",d2)])∧τ.del a=σ) (λ_ _=>False) s2) (E':=λ_ _=>False)
  (λg2 v1 v2 s6 l6 S6 dv1 dv2=>⟨kp g2 s6.heap (.ref 76) S6.wd (.obj 76) S6.rel.keep,show wpAny (model pw c.w) (c.under ea).A (call (.ref 76) [v1,v2]) _ _ s6 from wpAny_mono ((qHq (c:=c.under ea) (X:=λ_ _=>False) hl).go g2 _ own s6 _ [v1,v2] S6 (.obj 76) (.cons dv1 (.cons dv2 .nil)))
   (λv s' p=>p.le l6) λev s' x=>x.no⟩)
 refine wpAny_mono (Q:=PE (c.under ea) g ((ea,oE)::R) ρ own λd τ=>∃a dx,d= .obj a∧τ a=some (.exc 76 (some dx) [("what",d1),("at",d2)])∧τ.del a=σ) (E:=λ_ _=>False) ?_ (λv s6 p=>?_) λ_ _ x=>x.elim
 ·rw[qAy rfl]at hw' ⊢
  exact callWith_of (P:=λh=>Kp (model pw c.w) h (.ref 76)) (by show((false || (backTo cp (starEach [.Attribute (.Name n p3) "at" p4] c.env)).any (·.1)) || false)=false;rw[qCN rfl];rfl) (λh x=>x) (evalArgs_plain hw')
 obtain⟨g6,d,τ,l6,S6,dv,a,dx2,e1,e2,e3⟩:=p
 subst e1
 refine dv.on λ_=>?_
 obtain⟨nm,qn,Nn,k0,k2,k3,k5,hK⟩:=qHL c.w.params (show(76:Addr)∈excL by decide)
 obtain⟨a1,h1,ne,es2,n2,h2',hf2⟩:=S6.rel.rep a _ e2
 have oa:=S6.rel.off a _ e2
 have ia:a∈MO.at a (MO.exc 76 (some dx2) [("what",d1),("at",d2)]):=MO.self _ _
 have fr:∀b∈MO.at a (MO.exc 76 (some dx2) [("what",d1),("at",d2)]),Free (own++(ea,oE)::R) (τ.del a) b:=λb hb=>⟨(oa b hb).2,λa' o' e' hb'=>by
  unfold Sg.del at e'
  split at e'
  ·cases e'
  ·rename_i k;exact S6.rel.apart a _ a' o' e2 e' (Ne.symm k) b hb hb'⟩
 obtain⟨g7,l7,r7,ge7,f7⟩:=(S6.rel.forget (Sg.del_sub τ a)).growBut (oa a ia).1
 rw[e3]at r7 fr f7
 have mE:(ea,oE)∈own++(ea,oE)::R:=List.mem_append_right _ List.mem_cons_self
 have hne:ea≠a:=λz=>(oa a ia).2 (z▸List.mem_map_of_mem (f:=(·.1)) mE)
 have dE:oE.data= .fields #[a0,tb,.none,.none,.bool false,.none]:=by rw[←hoE]
 refine(.mk a 76 nm qn Nn (.ref a1) (some dx2) k0 k2 k3 k5 (#[]) oE _ rfl ((S6.wd.K.keeps S6.rel.keep) _ _ hK) h1 hne ((S6.rel.priv _ mE).2.exact dE) dE rfl (λh8 he8 sb=>?_))
 have r8:Rel c.w g7 (own++(ea,oE)::R) σ h8:=r7.aside (f:=λb=>b=a) (λb hb=>by subst hb;exact⟨ge7,fr _ ia⟩) λb ob hb q=>(sb.2 b hb).trans q
 exact k a g7 _ (l6.trans l7) ⟨S6.ok,r8,S6.wd.mono l7,S6.gens,S6.os,S6.locs.mono l7,S6.frs⟩ (.mk ge7 (fr a ia) dx2 es2 n2 d1 d2 (.ref a1) .none (.ref ea) (#[]) he8 (λk=>absurd rfl k) (f7 dx2 _ ne h2' (fr dx2 (by simp[MO.at]))) (hf2.mono l7) rfl)
theorem try_tail{n:Str}{hp:Pos}{ea:Addr}{oE:Obj}{W1 W2 K:Value→Shared→Prop}{G:Heap}(l:Le G g)(ht:c.top=true)(hn:c.env.kindOf n=some .local)(ok:CxOk c)(hE:∃vs,oE.data= .fields vs)
  (S8:St (c.under ea) g ((ea,oE)::R) ρ σ own s)(F8:FlyAt g (own++(ea,oE)::R) σ none a 76 s.heap)(q:∀ρ',X ρ' 76 σ)
  (hK:∀s',cameBackBy (model pw c.w) c.A c.env (PXs c G R X) (.ref a) s'→K (.ref a) s'):
  wpAny (model pw c.w) (c.under ea).A (noteFrame (.ref a) c.env) (λ_ s1=>wpAny (model pw c.w) (c.under ea).A (do bindName c.env n Value.none;unbindBehindTheSuite c.env n hp) (λ_ s4=>wpAny (model pw c.w) (c.under ea).A (PySem.passOn "try.except-as" (.ref a) c.env:Sem Flow) (λ_ _=>False) (notedBy (model pw c.w) (c.under ea).A c.env K) s4) W1 s1) W2 s:=by
 obtain⟨rest',L',hfr',hf',hA'⟩:=S8.frame (show(c.under ea).top=true from ht)
 have fk:FrOK (c.env::rest') (own++(ea,oE)::R):=by have:=S8.frs;rw[hfr']at this;exact this
 refine qC4 S8.rel (.mk none F8 (λF z=>by cases z)) (outer:=rest') fk hA' hf' λh9 r9 F9=>?_
 have S9:=S8.heap r9
 obtain⟨oL,mL,hoL,hnL,_⟩:=S9.locs.loc
 refine wpAny_nameGoes hn ((S9.rel.priv _ (List.mem_append_left _ hoL)).2.ns hnL) (by have:=S9.ok.hk;show((c.under ea).env.scope.kind== .class || ((c.under ea).env.scope.kind== .module && _))=false;rw[this];rfl) λh10 m10 hm10 sb10=>?_
 obtain⟨own10,hk10,S10⟩:=S9.names (tk:=s.toks+1) hm10 sb10
 have F10:FlyAt g (own10++(ea,oE)::R) σ (some (some L')) a 76 h10:=(F9.heap λb o fb q=>(sb10.2 b λz=>fb.1 (by rw[z,List.map_append];exact List.mem_append_left _ (List.mem_map_of_mem (f:=(·.1)) hoL))).trans q).keys (by rw[List.map_append,List.map_append,hk10])
 refine wpAny_bind (qIp (s:= {s with heap:=h10,toks:=s.toks+1}) F10 λT=>?_)
 rw[if_neg (by simp),show c.env.frame=some L' from hf']
 refine wpAny_bind (qBN (fr:=some L') S10.rel F10 λh12 r12 F12=>wpAny_throw ?_)
 have S12:=S10.heap r12
 unfold notedBy
 refine qC4 S12.rel (.mk _ F12 (λF z=>by injection z with z)) (outer:=rest') (by have:=S12.frs;rw[hfr']at this;exact this) hA' hf' λh13 r13 F13=>hK _ ?_
 have S13:=S12.heap r13
 refine wpAny_bind (qIp (s:= {s with heap:=h13,toks:=s.toks+1}) F13 λT=>?_)
 rw[if_neg (by simp),show c.env.frame=some L' from hf']
 refine qBN (fr:=some L') S13.rel F13 λh15 r15 F15=>?_
 exact(.mk own10 [] (.mk a 76 g σ rfl l (((S13.heap r15).drop hE).back ok) (Fly.sublist (.mk _ F15 (λF z=>by injection z with z;rw[show c.env.frame=some L' from hf',z])) ((List.Sublist.refl own10).append (List.sublist_cons_self _ R))) (q [])))
theorem ST_TryAs{body:List Stmt}{n F:Str}{np hp fp p1 p2 p3 p4 cp rp:Pos}{T:Addr}(ht:c.top=true)(hl:3≤c.lv)(hT:T∈excL)(hT76:T≠76)(k:c.env.kindOf x=some .globalImplicit)(e:globV.lookup x=some (.ref T))
  (kF:c.env.kindOf F=some .globalImplicit)(eF:globV.lookup F=some (.ref 76))(hn:c.env.kindOf n=some .local)
  (h:STs c body ρ σ N Rt (λρ1 C τ=>C=T∧∀ρ',X ρ' 76 τ))(hd:autoParam (false=(x==("__debug__":Str))) auR)(hdF:autoParam (false=(F==("__debug__":Str))) auR)
  (hnk:autoParam (true=okN n) auR):
  ST c (.Try body [.ExceptHandler (some (.Name x np)) (some n) [.Raise (some (.Call (.Name F fp) [.Attribute (.Name n p1) "what" p2,.Attribute (.Name n p3) "at" p4] [] cp)) none rp] hp] [] [] pos) ρ σ N Rt X:=.mk λg R own s S=>by
 refine wpAny_Try_except (wpAny_mono (h.go g R own s S) (λfl s1 p=>?_) λev s1 p1'=>p1'.el λown1 ρ1 p1'=>p1'.el λea C g1 σ1 e1 l1 S1 F1 p1'=>x0_2 p1' λe2 q=>?_)
 ·cases fl with
  |next=>exact wpAny_execs_nil p
  |ret v=>exact p
  |brk=>exact p
  |cont=>exact p
 subst e1 e2
 obtain⟨rest,L,hfr,hf,hA⟩:=S1.frame ht
 refine qC4 S1.rel (by rw[←hf];exact F1) (outer:=rest) (by rw[←hfr];exact S1.frs) hA hf λh2 r2 F2=>?_
 refine qBN (s:= {s1 with heap:=h2}) (fr:=none) r2 F2 λh3 r3 F3=>?_
 have S3:=S1.heap r3
 obtain⟨oe,he,hoe⟩:=F3.cls
 have LT:Looks (model pw c.w) h3 (typeOf (.ref ea)) (.ref C):=hoe▸(Looks.ld he).andThen .now
 have hx:=beq_iff_eq.mp (List.all_eq_true.mp (exmAll c.w.params) C hT)
 refine wpAny_handleBy_cons (codeAny_handlers_test (qDa (s:= {s1 with heap:=h3}) S3 k e ?_ hd)) (by intro q;cases q)
 refine(exm_one (S3.wd.K.keeps S3.rel.keep) LT hx) _ _ _ _ (λ_ _ e=>e) (codeAny_handlers_suite_as ?_)
 refine qBN (s:= {s1 with heap:=h3}) (fr:=none) r3 F3 λh4 r4 F4=>?_
 obtain⟨ge,fe,dx,es,m,d1,d2,a0,tb,cx,sl,he,hcx,hdx,hfl,_⟩:=F4
 obtain⟨rfl,fl1,fl2⟩:=hcx hT76
 have S4:=((S1.heap r4).under ea).hold he ge fe
 refine qAu S4 (.inl hn) (.obj ea) λown5 s5 S5=>?_
 have hρ:(rset ρ1 n (.obj ea)).lookup n=some (.obj ea):=by rw[qBF,if_pos rfl]
 exact qIN rfl S5 hρ hdx hfl hT fl1 fl2 hl kF eF hdF hnk λa g7 s8 l7 S8 F8=>try_tail (l1.trans l7) ht hn S1.ok ⟨_,rfl⟩ S8 F8 q λs' h=>h
end
theorem rl_eq:(rset ρ x d).lookup x=some d:=by
 induction ρ with
 |nil=>unfold rset;rw[List.lookup_cons,beq_self_eq_true]
 |cons p r ih=>
  cases p with|mk y e=>
  unfold rset
  by_cases h:(y==x)=true
  ·rw[if_pos h,List.lookup_cons,beq_self_eq_true]
  ·rw[if_neg h,List.lookup_cons,show(x==y)=false from beq_eq_false_iff_ne.mpr λz=>h (beq_iff_eq.mpr z.symm)]
   exact ih
theorem rl_ne{y:Str}{o:Option D}(n:false=(x==y))(h:ρ.lookup x=o):(rset ρ y d).lookup x=o:=by
 have n:=n.symm
 induction ρ with
 |nil=>unfold rset;rw[List.lookup_cons,n];exact h
 |cons p r ih=>
  cases p with|mk z e=>
  unfold rset
  rw[List.lookup_cons]at h
  by_cases k:(z==y)=true
  ·rw[if_pos k,List.lookup_cons,n]
   rw[beq_iff_eq.mp k,n]at h;exact h
  ·rw[if_neg k,List.lookup_cons]
   cases q:x==z with
   |true=>rw[q]at h;exact h
   |false=>rw[q]at h;exact ih h
theorem len0{P:List Value→Prop}(h:P []):∀vs:List Value,vs.length=0→P vs:=λvs e=>(List.eq_nil_of_length_eq_zero e).symm▸h
theorem lenS{P:List Value→Prop}(h:∀a,∀vs:List Value,vs.length=n→P (a::vs)):∀vs:List Value,vs.length=n+1→P vs
 |a::r,e=>h a r (Nat.succ.inj e)
theorem len1{P:List Value→Prop}(h:∀a,P [a]):∀vs:List Value,vs.length=1→P vs:=lenS λa=>len0 (h a)
theorem len2{P:List Value→Prop}(h:∀a b,P [a,b]):∀vs:List Value,vs.length=2→P vs:=lenS λa=>len1 (h a)
theorem len3{P:List Value→Prop}(h:∀a b c,P [a,b,c]):∀vs:List Value,vs.length=3→P vs:=lenS λa=>len2 (h a)
theorem len4{P:List Value→Prop}(h:∀a b c d,P [a,b,c,d]):∀vs:List Value,vs.length=4→P vs:=lenS λa=>len3 (h a)
theorem len5{P:List Value→Prop}(h:∀a b c d e,P [a,b,c,d,e]):∀vs:List Value,vs.length=5→P vs:=lenS λa=>len4 (h a)
theorem len6{P:List Value→Prop}(h:∀a b c d e f,P [a,b,c,d,e,f]):∀vs:List Value,vs.length=6→P vs:=lenS λa=>len5 (h a)
section
variable {X:Ro→Addr→Sg→Prop}
theorem ST_AsL{p':Pos}(h:WE c e ρ σ (kSet ρ N x) (X ρ))(hx:autoParam (some .local=c.env.kindOf x) auR)(hs:autoParam (pure false=swapsWith e (some (.Name x p')) p.line c.env) auR):ST c (.Assign [.Name x p'] e p) ρ σ N Rt X:=qGE (.inl hx.symm) h hs
theorem ST_AsC{p':Pos}(h:WE c e ρ σ (kSet ρ N x) (X ρ))(ht:autoParam (true=c.top) auR)(hx:autoParam (some .cell=c.env.kindOf x) auR)(hs:autoParam (pure false=swapsWith e (some (.Name x p')) p.line c.env) auR):ST c (.Assign [.Name x p'] e p) ρ σ N Rt X:=qGE (.inr ⟨ht.symm,hx.symm⟩) h hs
theorem qJV{p':Pos}(h:WEc c e ρ σ (kSet ρ N x) (X ρ))(hx:autoParam (some .local=c.env.kindOf x) auR)(hs:autoParam (pure false=swapsWith e (some (.Name x p')) p.line c.env) auR):STc c (.Assign [.Name x p'] e p) ρ σ N Rt X:=qEU (.inl hx.symm) h hs
theorem qJW{p':Pos}(h:WEc c e ρ σ (kSet ρ N x) (X ρ))(ht:autoParam (true=c.top) auR)(hx:autoParam (some .cell=c.env.kindOf x) auR)(hs:autoParam (pure false=swapsWith e (some (.Name x p')) p.line c.env) auR):STc c (.Assign [.Name x p'] e p) ρ σ N Rt X:=qEU (.inr ⟨ht.symm,hx.symm⟩) h hs
theorem ST_Swap{ts:List Expr}{tp:Pos}{y:Str}(h:WE c e ρ σ (SwapP x y ρ N) (X ρ))(hw:autoParam (swappedStores [.Tuple ts k tp] e c.env=pure (some [x,y])) auR)(hb:autoParam (true=c.bare) auR)(hx:autoParam (some .local=c.env.kindOf x) auR)(hy:autoParam (some .local=c.env.kindOf y) auR)
  (hs:autoParam (pure false=swapsWithSole [.Tuple ts k tp] e p.line c.env) auR):ST c (.Assign [.Tuple ts k tp] e p) ρ σ N Rt X:=qFF hb.symm (.inl hx.symm) (.inl hy.symm) h hs hw
theorem qJY{x:Expr}(h:WE c x ρ σ (RaiseP (X ρ)) (X ρ))(hb:autoParam (true=c.bare) auR):ST c (.Raise (some x) none p) ρ σ N Rt X:=ST_Raise hb.symm h
theorem AS_nL{X:Addr→Sg→Prop}(h:N (rset ρ x d) σ)(hx:autoParam (some .local=c.env.kindOf x) auR):AS c (.Name x p) d ρ σ N X:=AS_name (.inl hx.symm) h
theorem AS_tupR{ts:List Expr}{X:Addr→Sg→Prop}(h:ASs c ts ds ρ σ N)(hb:autoParam (true=c.bare) auR)(hn:autoParam (ds.length=(assignEach ts c.env).length) auR)(hs:autoParam (none=(assignEach ts c.env).findIdx? (·.1)) auR):AS c (.Tuple ts k p) (.tup ds) ρ σ N X:=qCD hb.symm h hn hs
theorem ASs_L{ts:List Expr}(h:ASs c ts ds (rset ρ x d) σ N)(hx:autoParam (some .local=c.env.kindOf x) auR)(he:autoParam ((assignEach (.Name x p::ts) c.env).map (·.2)=assign (.Name x p) c.env::(assignEach ts c.env).map (·.2)) auR):ASs c (.Name x p::ts) (d::ds) ρ σ N:=qAK (.inl hx.symm) h he
theorem swR{y:Str}{a b:D}(h:N (rset (rset ρ y b) x a) σ):SwapP x y ρ N (.tup [a,b]) σ:=(.mk a b rfl h)
theorem bdR1{c':Cx}{P:Option D→Sg→Prop}(w:WT c' ifs ρ σ (kElt c' elt ρ P))(h:RSubL ρ' ρ):BodyP c' ifs elt ρ' P ρ σ:=(.mk (RSub.of h) w)
end
section
theorem Cl_K(h:WEs c p es ρ σ (kOC c X ρ (.obj a) Q) X)(e:autoParam (true=keepIn (KF c.w.params) (.ref a)) auR):CallP c X ρ p es Q (.obj a) σ:=(.mk (qAJ e) h)
theorem Cl_blt{i:String}(h:WEs c p es ρ σ (kOC c X ρ (.blt i) Q) X):CallP c X ρ p es Q (.blt i) σ:=(.mk qAD h)
theorem Cl_typ{i:String}(h:WEs c p es ρ σ (kOC c X ρ (.typ i) Q) X):CallP c X ρ p es Q (.typ i) σ:=(.mk qCZ h)
theorem C0_K(h:OC c (.obj a) [] ρ σ Q X)(e:autoParam (true=keepIn (KF c.w.params) (.ref a)) auR):Call0P c X ρ Q (.obj a) σ:=(.mk (qAJ e) h)
theorem Clc_K(h:WEsc c p es ρ σ (kOCc c X ρ (.obj a) Q) X)(e:autoParam (true=keepIn (KF c.w.params) (.ref a)) auR):CallPc c X ρ p es Q (.obj a) σ:=(.mk (qAJ e) h)
theorem Clc_blt{i:String}(h:WEsc c p es ρ σ (kOCc c X ρ (.blt i) Q) X):CallPc c X ρ p es Q (.blt i) σ:=(.mk qAD h)
theorem Clc_typ{i:String}(h:WEsc c p es ρ σ (kOCc c X ρ (.typ i) Q) X):CallPc c X ρ p es Q (.typ i) σ:=(.mk qCZ h)
theorem C0c_K(h:OCc c (.obj a) [] ρ σ Q X)(e:autoParam (true=keepIn (KF c.w.params) (.ref a)) auR):Call0Pc c X ρ Q (.obj a) σ:=(.mk (qAJ e) h)
theorem C0c_typ{i:String}(h:OCc c (.typ i) [] ρ σ Q X):Call0Pc c X ρ Q (.typ i) σ:=(.mk qCZ h)
theorem M_find(h:WEs c p es ρ σ (kOCm c X ρ (.blt "str.find") [.str x] Q) X):MethP c X ρ "find" p es Q (.str x) σ:=(.mk _ _ GM_find qAD h)
theorem M_join(h:WEs c p es ρ σ (kOCm c X ρ (.blt "str.join") [.str x] Q) X):MethP c X ρ "join" p es Q (.str x) σ:=(.mk _ _ GM_join qAD h)
theorem qGF(h:WEs c p es ρ σ (kOCm c X ρ (.blt "str.startswith") [.str x] Q) X):MethP c X ρ "startswith" p es Q (.str x) σ:=(.mk _ _ qFH qAD h)
theorem M_split(h:WEs c p es ρ σ (kOCm c X ρ (.blt "str.split") [.str x] Q) X):MethP c X ρ "split" p es Q (.str x) σ:=(.mk _ _ GM_split qAD h)
theorem M0_lower(h:OC c (.blt "str.lower") [.str x] ρ σ Q X):Meth0P c X ρ "lower" Q (.str x) σ:=(.mk _ _ GM_lower qAD h)
theorem tpR(h:Q (.tup ds) σ)(hz:autoParam (true=Nat.ble ds.length 16) auR):TupP Q ds σ:=(.mk (Nat.le_trans (Nat.le_of_ble_eq_true hz.symm) (show 16≤sizeLine by decide)) h)
theorem lpR(h:Q (.lst ds) σ)(hz:autoParam (true=Nat.ble ds.length 16) auR):LstP Q ds σ:=(.mk (Nat.le_trans (Nat.le_of_ble_eq_true hz.symm) (show 16≤sizeLine by decide)) h)
theorem ltR(h:∀a,σ a=none→Q (.obj a) (σ.set a (.list ds)))(hz:autoParam (true=Nat.ble ds.length 16) auR):LsTP Q ds σ:=(.mk (Nat.le_trans (Nat.le_of_ble_eq_true hz.symm) (show 16≤sizeLine by decide)) h)
theorem Sb_tup{id:D}(h:O2 c getItem (.tup ds) id ρ σ Q X):SubP c X ρ Q (.tup ds) id σ:=(.mk SO_tup h)
theorem qE0{id:D}(h:O2 c getItem (.lst ds) id ρ σ Q X):SubP c X ρ Q (.lst ds) id σ:=(.mk SO_lst h)
theorem Sb_str{id:D}(h:O2 c getItem (.str x) id ρ σ Q X):SubP c X ρ Q (.str x) id σ:=(.mk SO_str h)
theorem Sb_bytes{id:D}(h:O2 c getItem (.bytes b) id ρ σ Q X):SubP c X ρ Q (.bytes b) id σ:=(.mk SO_bytes h)
theorem ipR{Q:Option Int→Sg→Prop}{i:Int}(h:Q (some i) σ):IntP Q (.int i) σ:=(.mk i rfl h)
theorem lvN{a b:Nat}(h:autoParam (true=Nat.ble a b) auR):a≤lv+b:=Nat.le_trans (Nat.le_of_ble_eq_true h.symm) (Nat.le_add_left b lv)
end
theorem if_bt{b:Bool}{A B:Prop}(hb:b=true)(h:A):if b=true then A else B:=by rw[if_pos hb];exact h
theorem if_bf{b:Bool}{A B:Prop}(hb:b=false)(h:B):if b=true then A else B:=by subst hb;exact h
theorem xk0{P:Prop}(k:a≠a):P:=absurd rfl k
theorem xk1{P:Prop}{a:Bool}(_:P):a=a:=rfl
theorem xk2{P:Prop}{a b:Bool}(_:P):a=a∧b=b:=⟨rfl,rfl⟩
theorem skipS{X:Ro→Addr→Sg→Prop}{v:Str}{y:Str}{p1 p2 p3:Pos}{body rest:List Stmt}(e:ρ.lookup x=some (.str v))(hk:true=okN x)(hn:false=(v==y))(h:STs c rest ρ σ N Rt X):
  STs c (.If (.Compare (.Name x p1) [.Eq] [.Constant (.str y) k p2] p3) body [] p::rest) ρ σ N Rt X:=
 STs_cons (ST_If (qES (WE_name e (WE_str (O_eqs (T_bool (Q:=kIf c Rt X ρ (kSeq c Rt X N rest) body []) (kIf_f hn (STs_nil h))))) hk)))
section
open Sem (wp)
theorem endsC{prog:Program}{t:Sem Fin}{R:Result→Shared→Prop}(hreg:s.asleep)
  (h:wpC (model prog w) callerA t (λfin s'=>∃f,fin= .done f∧(R (.ok f) s'∧leftWithCleanup s'.gens=false)) (λe s'=>R (.error e) s'∧leftWithCleanup s'.gens=false) s):
  ∃n r s' s'',runN (denote table) prog w n s ⟨t,.builtin "claim.caller" {},default,[]⟩= .halted (outcomeOf r) s'∧
   schedN (denote table) prog w n (.single s ⟨t,.builtin "claim.caller" {},default,[]⟩)= .halted (outcomeOf r) s'∧s'.forget=s''.forget∧R r s'':=by
 have h':wp (model prog w) ⟨.builtin "claim.caller" {},none,none,[],none⟩ t (Sem.finPost (model prog w) ⟨.builtin "claim.caller" {},none,none,[],none⟩ λr s'=>R r s'∧leftWithCleanup s'.gens=false)
   (λe _ s'=>R (.error e) s'∧leftWithCleanup s'.gens=false) default s:=by
  refine Sem.wp_mono _ _ t (λfin p' s' z=>?_) (λ_ _ _ z=>z) default s (h _ default caller_in rfl (λx hx=>nomatch hx))
  obtain⟨f,rfl,z⟩:=z
  exact z
 obtain⟨n,r,s₁,s₂,hs,hn,hfo,hR⟩:=wp_halts_full (M:=model prog w) (R:=R) hreg h'
 exact⟨n,r,s₂,s₁,hn,hs,hfo,hR⟩
theorem qJ3{c:ClaimW}{tree:List Value→Sem Fin}{free:Addr→Prop}{gens:Prop}{kept:Heap→Prop}(hz:s.asleep)(hgens:s.gens= #[])
  (hspec:∀args,c.pre args=true→WData.layableAll args=true→
   ∀ord:List DictEntry→List DictEntry,(∀l,(ord l).Perm l)→
   ∃vs s₁,layAllW c.records (classAt s.heap) w.params ord args s=some (vs,s₁)∧
    wpC (model c.prog w) callerA (tree vs) (λfin s'=>∃f,fin= .done f∧(c.Ends s args vs s₁ (.ok f) s'∧s'.os=s.os∧AllBare s'.gens∧kept s'.heap))
     (λe s'=>c.Ends s args vs s₁ (.error e) s'∧s'.os=s.os∧AllBare s'.gens∧kept s'.heap) s₁):
  c.CallFrom (λvs=>⟨tree vs,.builtin "claim.caller" {},default,[]⟩) w free gens kept s:=by
 intro args hpre hlay ord hord
 obtain⟨vs,s₁,hlaid,hcode⟩:=hspec args hpre hlay ord hord
 have hal:=layAllW_rest _ _ _ hlaid
 obtain⟨k,r,s',s'',hrun,hsched,hfo,hcase,hos,hkp⟩:=endsC (prog:=c.prog) (w:=w) (t:=tree vs) (s:=s₁)
  (R:=λr s'=>c.Ends s args vs s₁ r s'∧s'.os=s.os∧kept s'.heap) (Shared.asleep_of_life hal.2.2.2 hz)
  (qA6 hcode (λfin s' o1'=>x1_5 o1' λf e h1 h2 h3 h4=>⟨f,e,⟨h1,h2,h4⟩,leftWithCleanup_false_of_bare h3⟩) λe s' o2'=>x0_4 o2' λh1 h2 h3 h4=>⟨⟨h1,h2,h4⟩,leftWithCleanup_false_of_bare h3⟩)
 obtain⟨eh,_,_,eo,_⟩:=Shared.forget_eq hfo
 have hcase:=hcase.congr eh
 have hlife:s'.heap.life=s.heap.life:=(runN_life _ _ _ hrun).trans hal.2.2.2
 refine⟨vs,s₁,hlaid,k,_,s',hsched,?_,(λ_ i x hx=>by rw[hgens]at hx;simp at hx),by rw[eh];exact hkp,by rw[hlife],Shared.rest_eq (eo.trans hos)⟩
 rcases hcase with q|q
 ·obtain⟨v,ev,d1,d2,d3,d4,d5⟩:=q
  exact .inl ⟨v,congrArg outcomeOf ev,d1,d2,d3,λb o y _=>d4 b o y,d5⟩
 ·obtain⟨e,ob,cls,ev,d1,d2,d3,d4,d5⟩:=q
  exact .inr ⟨e,ob,cls,congrArg outcomeOf ev,d1,d2,d3,d4,λb o y _=>d5 b o y⟩
noncomputable def WalkC(q:Program)(loose:List Str)(XP:(Str→Option Value)→Heap→Prop)(YP:World→Heap→Prop)(r:RowW)(d:DefRec)(kwd:List (Str × Expr)):Prop:=
 ∀(w:World) (s₀ s₁:Shared) (mg mb:Str→Option Value),Ground q loose r.records XP w s₀ mg mb s₁.heap→YP w s₁.heap→∀(a:Addr) (o:Obj) (pm cd doc dV kV:Value),s₁.heap.get? a=some o→
  o.data= .func {docDef d.name d.params d.body d.scope pm cd doc with defaults:=dV,kwdefaults:=kV}→s₁.heap.CodeRec cd d.name→Dflts mg s₁.heap d.params kwd dV kV→mg d.name=some (.ref a)→s₁.gens= #[]→
  ∀(args:List WData) (vals:List Value) (as:List Addr),r.claim.pre args=true→WData.layableAll args=true→ReadsAllW r.records (classAt s₀.heap) s₁.heap vals args as→WellAll w.params s₁.heap vals args→(∀a∈as,(a==sysModules)=false)→
   wpC (model r.prog w) callerA (PySem.call (.ref a) vals) (λv s'=>GoodWG r.claim (classAt s₀.heap) (ExcName.means s₀.heap) args s₁ (.ok (.ret v)) s')
    (λe s'=>GoodWG r.claim (classAt s₀.heap) (ExcName.means s₀.heap) args s₁ (.error e) s') s₁
theorem holdsC{r:OpenRow}{q:Program}{loose:List Str}{Xt:Shared→Bool}{XP:(Str→Option Value)→Heap→Prop}{α:Type}{Yf:Shared→α}{Ya:World→α}{YP:World→Heap→Prop}{d:DefRec}{kwd:List (Str × Expr)}{N:Nat}
  (left:LeftO r.prog q loose Xt Yf Ya N)(hY:∀w s,Yf s=Ya w→YP w s.heap)(hYk:∀w h h',YP w h→(∀b o,h.get? b=some o→h'.get? b=some o)→YP w h')
  (hX:∀s,Xt s=true→XP (s.heap.nsMap mainGlobals) s.heap)(hXk:∀mg h h',XP mg h→(∀b o,h.get? b=some o→h'.get? b=some o)→XP mg h')
  (hdef:defOf q r.name=some (d,kwd))(hp:r.prog.theDef r.name=some (d.params,d.body,d.scope))(hk:kwWritten? d.params.kwonlyargs d.params.kw_defaults=some kwd)(hRf:∀s,Xt s=true→RecFacts r.records s.heap)(hwr:(!r.writes || r.records.isEmpty)=true)
  (k1:r.wellSaid=true)(ok:(chainsOk q && opensWell r.prog && (frees r.toRowW && r.within.isEmpty))=true)(hb:r.prog.bare)(hw:r.toRowW.promised)
  (walk:WalkC q loose XP YP r.toRowW d kwd):r.Holds:=by
 obtain⟨ok,k5⟩:=Bool.and_eq_true_iff.mp ok
 obtain⟨hch,o1⟩:=Bool.and_eq_true_iff.mp ok
 obtain⟨k5,k6⟩:=Bool.and_eq_true_iff.mp k5
 obtain⟨hsame,hu,ha,hap,hm⟩:=frees_parts k5
 refine⟨k1,hw,⟨hb,o1,by show r.makers.map _= [];rw[hm];rfl⟩,hw.witness,λw=>⟨(left.behind hX hch w).1,λs' hs'=>?_⟩⟩
 obtain⟨s₀,hf,hg0,s,hT,hz,hgens,hg,G00,y⟩:=(left.behind (XP:=λmg h=>XP mg h∧RecFacts r.records h) (λs hs=>⟨hX s hs,hRf s hs⟩) hch w).2 s' hs'
 have G0:Ground q loose [] XP w s (s.heap.nsMap mainGlobals) (s.heap.nsMap builtinsNs) s.heap:=⟨G00.T,G00.B,G00.D,G00.TE,G00.TD,G00.W,G00.X.1,G00.cls,G00.has,G00.apart,G00.once,G00.K⟩
 have RF:=G00.X.2
 have hT':=hT
 refine⟨s₀,hf,hg0,s,hT,λn hn=>?_,RF.1,RF.2.1,?_⟩
 ·obtain rfl:n=r.name:=by split at hn <;> simp_all
  exact pinned_of_view hg G0 hdef hp hk
 have hgens:s.gens= #[]:=Array.eq_empty_of_size_eq_zero (beq_iff_eq.mp hgens)
 have G:Ground q loose r.records XP w s _ _ s.heap:=RF.ground G0
 refine qJ3 (c:=r.claim) (tree:=λvs=>do match ←nsGet mainNs r.name with
   |some f=>do ret (←PySem.call f vs)
   |none=>unsupported "claim.caller:no-such-global") hz hgens λargs hpre hlay ord hord=>?_
 obtain⟨⟨vs,s₁⟩,hlaid⟩:=Option.isSome_iff_exists.mp (layAllW_isSome (P:=w.params) (ord:=ord) G.has args r.args s (pre_splitW hpre).1)
 have keeps:=layAllW_keeps _ _ _ hlaid
 have hal:=layAllW_rest _ _ _ hlaid
 obtain⟨as,hrd,hin,hold⟩:=reads_layAllW hord _ _ _ hlaid hlay s₁.heap (λ_ _ e=>e)
 have L:Laid r.records w s s₁ args vs as:=⟨⟨ord,hord,hlaid⟩,hrd,hin,hold,keeps,hal.1.trans hgens,hal.2.2.1⟩
 have G₁:=G.keeps hXk keeps
 obtain⟨a,o,pm,cd,doc,dV,kV,h1,h2,h3,h4,h5⟩:=G₁.fn hdef
 have h:=walk w s s₁ _ _ G₁ (hYk _ _ _ (hY w s y) keeps) a o pm cd doc dV kV h2 h3 h4 h5 (defOf_name hdef▸h1) L.gens args vs as hpre hlay L.reads L.well (L.low G.low)
 have hi:=ident_freeW hu ha hap
 have hwi:r.claim.within= []:=List.isEmpty_iff.mp k6
 refine⟨vs,s₁,hlaid,?_⟩
 refine qA2 (wpAny_nsGet G₁.T.g ?_)
 rw[h1]
 refine qA7 (qA6 h (λv s' g=>qA8 ⟨_,rfl,?_⟩) λe s' g=>?_)
 ·have z:=g.laid (c:=r.claim) hsame hwi hi L
  exact⟨z.1,z.2.1,z.2.2,λq=>⟨namesKept_of hT' hg _ keeps g.2.1.old,noTable hwr q⟩⟩
 ·have z:=g.laid (c:=r.claim) hsame hwi hi L
  exact⟨z.1,z.2.1,z.2.2,λq=>⟨namesKept_of hT' hg _ keeps g.2.1.old,noTable hwr q⟩⟩
end
def YW(w:World)(h:Heap):Prop:=(KF w.params).In h∧(∀p∈codeT,h.CodeRec (.ref p.1) p.2)∧(∀p∈globV,h.nsMap mainGlobals p.1=some p.2)∧(∀x∈bltN,h.nsMap mainGlobals x=none)∧(∃o,h.get? mainGlobals=some o)∧h.get? 739=some ⟨.none,none,.fields #[],#[]⟩
theorem qHA(e:h.get? a=some o)(e':h'.get? a=some o)(x:Str):h'.nsMap a x=h.nsMap a x:=by
 unfold Heap.nsMap;rw[e,e']
theorem YW.keeps(w:World)(h h':Heap)(y:YW w h)(k:∀b o,h.get? b=some o→h'.get? b=some o):YW w h':=
 let⟨a,b,c,d,⟨o,e⟩,f⟩:=y
 ⟨a.keeps k,λp hp=>(b p hp).keeps k,λp hp=>(qHA e (k _ _ e) _).trans (c p hp),λx hx=>(qHA e (k _ _ e) _).trans (d x hx),⟨o,k _ _ e⟩,k _ _ f⟩
theorem YW.of(w:World)(s:Shared)(e:Yf s=Ya w):YW w s.heap:=by
 have c:∀p∈globV,s.heap.nsMap mainGlobals p.1=some p.2:=qC3 (congrArg (λx=>x.2.2.1) e:globV.map (λp=>s.heap.nsMap mainGlobals p.1)=globV.map (λp=>some p.2))
 refine⟨Frag.in_of (qIn _) (congrArg Prod.fst e),λp hp=>qEB (qC3 (congrArg (λx=>x.2.1) e:codeT.map (λp=>qF7 s.heap p.1)=codeT.map (λp=>some p.2)) p hp),c,
  qC3 (congrArg (λx=>x.2.2.2.1) e:bltN.map (λx=>s.heap.nsMap mainGlobals x)=bltN.map (λ_=>none)),?_,congrArg (λx=>x.2.2.2.2) e⟩
 have:=c ("PostError",Value.ref 39) (by unfold globV;exact .head _)
 unfold Heap.nsMap at this
 cases q:s.heap.get? mainGlobals with
 |none=>rw[q]at this;cases this
 |some o=>exact⟨o,rfl⟩
noncomputable def dLaw:DefRec:=match defOf qv ("law":Str)with|some (d,_)=>d|none=>⟨"",⟨[],[],none,[],[],none,[]⟩,[],⟨.function,[],false,false,[]⟩,⟨0,0,0,0⟩⟩
theorem hdef:defOf qv rw'.row.name=some (dLaw,[]):=by kernel_rfl
theorem hp0:rw'.row.prog.theDef rw'.row.name=some (dLaw.params,dLaw.body,dLaw.scope):=by kernel_rfl
theorem hk0:kwWritten? dLaw.params.kwonlyargs dLaw.params.kw_defaults=some []:=by kernel_rfl
theorem ok0:(chainsOk qv && opensWell rw'.row.prog && (frees rw'.row.toRowW && rw'.row.within.isEmpty))=true:=by kernel_rfl
theorem witness0:rw'.row.toRowW.promised:=⟨[.list []],by decide+kernel,by decide+kernel⟩
theorem bare0:rw'.row.prog.bare:=⟨rfl,rfl,rfl,rfl,rfl,by decide+kernel⟩
theorem head0(walk:WalkC qv qHC (λ_ _=>True) YW rw'.row.toRowW dLaw [])(k1:rw'.row.wellSaid=true):rw'.row.Holds:=
 holdsC left0 YW.of YW.keeps (λ_ _=>trivial) (λ_ _ _ _ _=>trivial) hdef hp0 hk0 (λ_ _=>recFacts_nil rfl) (by kernel_rfl) k1 ok0 bare0 witness0 walk
theorem Wd.ofY{mg mb:Str→Option Value}(y:YW w h)(hg:h.Ns mainGlobals mg)(hb:h.Ns builtinsNs mb)(hb':∀x:Str,x≠"__name__"→mb x=bootBuiltins x)(hl:h.NoLimit)(hm:BM h):Wd w h where
 K:=y.1
 code:=y.2.1
 ns:=⟨mg,mb,hg,hb,λp hp=>by rw[hg.eq_nsMap];exact y.2.2.1 p hp,λx hx=>by rw[hg.eq_nsMap];exact y.2.2.2.1 x hx,hb'⟩
 lim:=hl
 bmain:=hm
theorem mem_of_lookup{α β:Type} [BEq α] [LawfulBEq α]{x:α}{v:β}{l:List (α × β)}(e:l.lookup x=some v):(x,v)∈l:=by
 induction l with
 |nil=>cases e
 |cons p r ih=>
  cases p with|mk y u=>
  rw[List.lookup_cons]at e
  cases q:x==y with
  |true=>rw[q]at e;rw[←Option.some.inj e,beq_iff_eq.mp q];exact .head _
  |false=>rw[q]at e;exact .tail _ (ih e)
theorem law_at:globV.lookup (Str.ofString "law")=some (Value.ref 744):=by kernel_rfl
theorem law_name:dLaw.name="law":=by kernel_rfl
theorem head1(walk:∀(w:World) (s:Shared) (l:Addr) (vs:List Value) (ns:List Int),Wd w s.heap→s.heap.IsList l vs.toArray→IntsAre vs ns→ns.length≤63→(PyData.list (ns.map PyData.int)).layable0=true→s.gens= #[]→s.heap.get? 739=some ⟨.none,none,.fields #[],#[]⟩→
   wpC (model pw w) callerA (call (.ref 744) [.ref l]) (λv s'=>v= .bool true∧OldK s.heap s'.heap∧s'.os=s.os∧s'.gens= #[]) (λ_ _=>False) s)(k1:rw'.row.wellSaid=true):rw'.row.Holds:=by
 refine head0 ?_ k1
 clear k1
 intro w s₀ s₁ mg mb G Y a o pm cd doc dV kV ho hd hcd hD hmg hg args vals as hpre hlay hrd hwl hlo
 refine Ground.open G ?_
 intro T B D TE TW
 have W:=Wd.ofY Y T.g T.b T.builtins T.nolimit (x2_1 T.bmain λbm ob r=>⟨_,bm,ob,T.g,r⟩)
 have ha:a=744:=by
  have h1:=Y.2.2.1 _ (mem_of_lookup law_at)
  rw[←T.g.eq_nsMap]at h1
  rw[law_name]at hmg
  have h2:=hmg.symm.trans h1
  injection h2 with h2;injection h2
 subst ha
 wrow_args hpre hlay hrd hwl hlo
 rename_i hlen _
 refine qA6 (walk w s₁ _ _ _ W (by assumption) (by assumption) (by omega) (by assumption) hg Y.2.2.2.2.2) (λv s' z=>?_) λ_ _ z=>z.elim
 obtain⟨rfl,k,os,gs⟩:=z
 exact⟨.inl ⟨_,.bool true,[],rfl,raisesW_false (λct hct=>nomatch hct),.bool true,postW_of (by kernel_rfl) (by kernel_rfl) rfl,unshared_nil⟩,k,os,.of_eq gs⟩
theorem szA(h:n≤1000000):n≤sizeLine:=Nat.le_trans h (by decide)
theorem szB(h:n≤16777216):n≤sizeLine:=h
theorem smA{α β:Type}{l:List α}{f:α→β}(h:l.length≤1000000):(l.map f).length≤sizeLine:=Nat.le_trans (Nat.le_of_eq (List.length_map _)) (szA h)
theorem smB{α β:Type}{l:List α}{f:α→β}(h:l.length≤16777216):(l.map f).length≤sizeLine:=Nat.le_trans (Nat.le_of_eq (List.length_map _)) (szB h)
theorem arFit{L r s:Nat}(e:L+r=s - n)(hn:n≤s)(h:k≤L):n+k≤s:=
 Nat.add_comm k n▸Nat.add_le_of_le_sub hn (Nat.le_trans h (Nat.le_trans (Nat.le_add_right L r) (Nat.le_of_eq e)))
theorem arOff{s c t:Nat}(h:s - (n+1)=c+t)(hn:n < s):n+1+c+t≤s:=by
 have:=arFit (L:=c+t) (r:=0) h.symm hn (Nat.le_refl _)
 rwa[←Nat.add_assoc]at this
theorem arTag(n c t:Nat):n+1+c+t=n+(c+t+1):=by rw[Nat.add_assoc,Nat.add_right_comm n 1,Nat.add_assoc]
theorem arCut{s:Nat}(h:n+k≤s):¬((s:Int) - n+1 < (k:Int)):=by omega
theorem arRng{s:Nat}(h:k≤s)(hs:s≤16777216): -2 ^ 62≤(k:Int)∧(k:Int) < 2 ^ 62:=by omega
theorem arMin{i s:Nat}(h:k≤s)(hs:s≤16777216):min i k≤sizeLine:=Nat.le_trans (Nat.min_le_right i k) (Nat.le_trans h hs)
theorem qBX(m:Int):(qCJ 0 m).length=m.toNat:=by unfold qCJ;rw[List.length_map,List.length_range,Int.sub_zero]
theorem qCR{m:Int}(h:(qCJ 0 m)[k]? =some d):k < m.toNat:=qBX m▸(List.getElem?_eq_some_iff.mp h).1
theorem qDF{m:Int}(h:(qCJ 0 m)[k]? =some d):d= .int k:=by
 unfold qCJ at h
 rw[List.getElem?_map]at h
 obtain⟨y,hy,e⟩:=Option.map_eq_some_iff.mp h
 have:=(List.getElem?_eq_some_iff.mp hy).2
 rw[List.getElem_range]at this
 rw[←e,←this,Int.zero_add]
theorem arA1{c t N:Nat}(h:c+t+1≤N):1+c≤N:=Nat.le_trans (Nat.add_comm 1 c▸Nat.succ_le_succ (Nat.le_add_right c t)) h
theorem arA2{c t N:Nat}(h:c+t+1≤N):1+c+t≤N:=by rw[Nat.add_assoc,Nat.add_comm];exact h
theorem arApp{a:Array UInt8}{t N:Nat}(h:a.size+b.size+t≤N):(a++b).size+t≤N:=by rw[Array.size_append];exact h
theorem arCon(a:UInt8)(l m:List UInt8): #[a]++l.toArray++m.toArray=(a::(l++m)).toArray:=by simp
theorem qFA{fd:FuncData}{ns:List Str}(dvs:DVs g as vs)(hl:as.length=ns.length)(h:∀vs:List Value,vs.length=ns.length→bindArgs fd ⟨vs,[]⟩=pure (ns.zip vs)):
  BindsTo s fd ⟨vs,[]⟩ (ns.zip vs):=.of_eq (h vs (dvs.length.trans hl))
noncomputable def fnOk(ns:List Str)(st:Stmt)(cd:Addr)(qual:Str):Bool:=decide ((cd,qual)∈codeT∧ns.Nodup∧(∀x∈ns,(qA3 st).names.lookup x=some .local∨(qA3 st).names.lookup x=some .cell)∧((cellsFrom 0 (qA3 st).names []).map (·.1)).Nodup)
theorem qA5{st:Stmt}{name qual:Str}{dV pm:Value}{cd:Addr}(ns:List Str)
  (hK:(KF w.params).lookup a=some (fnO st name qual dV pm cd))
  (hb:∀vs:List Value,vs.length=ns.length→bindArgs (fdOf st name qual dV pm cd) ⟨vs,[]⟩=pure (ns.zip vs))
  (body:∀A fr L,STs (cxOf (fdOf st name qual dV pm cd) a w os lv A fr L) (qBs st) (ns.zip as) σ (λ_ τ=>Q .none τ) Q (λ_=>X))
  (hok:autoParam (true=fnOk ns st cd qual) auK)(hl:autoParam (ns.length=as.length) auR)
  (hk:autoParam (.function=(qA3 st).kind) auR)(hco:autoParam (false=(qA3 st).isCoroutine) auR)(hgen:autoParam (false=(qA3 st).isGenerator) auR):FN w os (lv+1) a as σ Q X:=
 have hok:=of_decide_eq_true hok.symm
 qDL ns hK hok.1 (λg s vs wd k dvs=>(y23 as vs dvs (qFA dvs hl.symm hb) body)) hok.2.1 hok.2.2.1 hok.2.2.2 hk hco hgen
theorem qBx{st:Stmt}{name qual:Str}{dV pm:Value}{cd:Addr}(ns:List Str)
  (hK:(KF w.params).lookup a=some (fnO st name qual dV pm cd))
  (hb:∀vs:List Value,vs.length=ns.length→bindArgs (fdOf st name qual dV pm cd) ⟨vs,[]⟩=pure (ns.zip vs))
  (body:∀A fr L,STsc (cxOf (fdOf st name qual dV pm cd) a w os lv A fr L) (qBs st) (ns.zip as) σ (λ_ τ=>Q .none τ) Q (λ_=>X))
  (hok:autoParam (true=fnOk ns st cd qual) auK)(hl:autoParam (ns.length=as.length) auR)
  (hk:autoParam (.function=(qA3 st).kind) auR)(hco:autoParam (false=(qA3 st).isCoroutine) auR)(hgen:autoParam (false=(qA3 st).isGenerator) auR):FNc w os (lv+1) a as σ Q X:=
 have hok:=of_decide_eq_true hok.symm
 qJg ns hK hok.1 (λg s vs wd k dvs=>(y23 as vs dvs (qFA dvs hl.symm hb) body)) hok.2.1 hok.2.2.1 hok.2.2.2 hk hco hgen
section
theorem WE_bytes{x:List UInt8}(h:Q (.bytes x.toArray) σ):WE c (.Constant (.bytes x) k p) ρ σ Q X:=.mk λ_ _ _ _ S=>W.Constant_bytes (S.val (.bytes _ _) h)
end
noncomputable def cntG:Nat→Nat→List UInt8
 |0,n=>[n.toUInt8]
 |f+1,n=>if n > 127 then(128+n % 128).toUInt8::cntG f (n / 128)else [n.toUInt8]
theorem dv128(n:Nat):(n+1) / 128≤n:=Nat.le_of_lt_succ (Nat.div_lt_self (Nat.succ_pos n) (by decide))
theorem cntG_eq{f g:Nat}(hf:n≤f)(hg:n≤g):cntG f n=cntG g n:=by
 induction f generalizing n g with
 |zero=>
  have e:=Nat.le_zero.mp hf
  rw[e]
  cases g with
  |zero=>rfl
  |succ g=>rfl
 |succ f ih=>
  cases g with
  |zero=>rw[Nat.le_zero.mp hg];rfl
  |succ g=>
   show(if n > 127 then(128+n % 128).toUInt8::cntG f (n / 128)else [n.toUInt8])=if n > 127 then(128+n % 128).toUInt8::cntG g (n / 128)else [n.toUInt8]
   rw[ih (n:=n / 128) (g:=g) (Nat.le_trans (Nat.div_le_div_right hf) (dv128 f)) (Nat.le_trans (Nat.div_le_div_right hg) (dv128 g))]
noncomputable def cntL(n:Nat):List UInt8:=cntG n n
theorem qBh(h:n > 127):cntL n=(128+n % 128).toUInt8::cntL (n / 128):=by
 cases n with
 |zero=>omega
 |succ n=>exact(if_pos h).trans (congrArg (_:: ·) (cntG_eq (dv128 n) (Nat.le_refl _)))
theorem qAW(h:¬n > 127):cntL n= [n.toUInt8]:=by
 cases n with
 |zero=>rfl
 |succ n=>exact if_neg h
theorem qDG(n:Nat):0 < (cntL n).length:=by
 by_cases h:n > 127
 ·rw[qBh h];simp
 ·rw[qAW h];simp
theorem fmodN(k m:Nat):(k:Int).fmod (m:Int)=((k % m:Nat):Int):=by
 rw[Int.fmod_eq_emod_of_nonneg _ (Int.natCast_nonneg m),Int.natCast_emod]
theorem fdivN(k m:Nat):(k:Int).fdiv (m:Int)=((k / m:Nat):Int):=by
 rw[Int.fdiv_eq_ediv_of_nonneg _ (Int.natCast_nonneg m),Int.natCast_ediv]
theorem Sg.set_set(σ:Sg)(a:Addr)(o p:MO):(σ.set a o).set a p=σ.set a p:=funext λb=>by unfold Sg.set;split <;> rfl
theorem noPy{x y:Int}(h:decide ((if y==0 then 0 else y.natAbs.log2 / 30+1) > 300)=false:=by decide+kernel):Builtin.divisionGoesByPylong x y=false:=by
 unfold Builtin.divisionGoesByPylong
 dsimp only
 rw[h];rfl
theorem Free.sub{b:Addr}(k:τ.Sub σ)(x:Free R σ b):Free R τ b:=⟨x.1,λa o e=>x.2 a o (k a o e)⟩
theorem FlyAt.forget{st:Option (Option Addr)}{e C:Addr}(F:FlyAt g R σ st e C h)(k:τ.Sub σ):FlyAt g R τ st e C h:=F.turn (λ_ x=>x.sub k) λ_ _ _ h=>h
theorem CallPost.drop{r:Result}(p:CallPost w os g R (λd τ=>∃υ:Sg,υ.Sub τ∧Q d υ) (λC τ=>∃υ:Sg,υ.Sub τ∧X C υ) r s'):CallPost w os g R Q X r s':=
 p.imp (λv p=>by refine p.el λg' d σ' l r hg ho dv q=>?_;obtain⟨υ,k,q⟩:=q;exact(.mk g' d υ l (r.forget k) hg ho dv q)) λv p=>by refine p.el λe C g' σ' fl q1 l r hg ho F nf x=>?_;obtain⟨υ,k,x⟩:=x;exact(.mk e C g' υ fl q1 l (r.forget k) hg ho (F.forget k) nf x)
section
theorem qCt(h:FN w os lv a as σ (λd τ=>∃υ:Sg,υ.Sub τ∧Q d υ) (λC τ=>∃υ:Sg,υ.Sub τ∧X C υ)):FN w os lv a as σ Q X:=λA fr g R s vf vs rm fo rel wd hgs hos e dvs=>
 codeAny_mono (h A fr g R s vf vs rm fo rel wd hgs hos e dvs) λ_ _ p=>p.drop
theorem qHX(h:FNc w os lv a as σ (λd τ=>∃υ:Sg,υ.Sub τ∧Q d υ) (λC τ=>∃υ:Sg,υ.Sub τ∧X C υ)):FNc w os lv a as σ Q X:=λA fr g R s vf vs rm fo rel wd hgs hos e dvs=>
 qBZ (h A fr g R s vf vs rm fo rel wd hgs hos e dvs) λ_ _ p=>p.drop
theorem CallPost.mono{Q':D→Sg→Prop}{X':Addr→Sg→Prop}{r:Result}(p:CallPost w os g R Q' X' r s')(k:∀d τ,Q' d τ→Q d τ)(kx:∀C τ,X' C τ→X C τ):CallPost w os g R Q X r s':=
 p.imp (λv p=>by refine p.el λg' d σ' l r hg ho dv q=>?_;exact(.mk g' d σ' l r hg ho dv (k _ _ q))) λv p=>by refine p.el λe C g' σ' fl q1 l r hg ho F nf x=>?_;exact(.mk e C g' σ' fl q1 l r hg ho F nf (kx _ _ x))
theorem FN_up{lv':Nat}(h:FN w os lv a as σ Q X)(k:lv≤lv'):FN w os lv' a as σ Q X:=λA fr g R s vf vs rm=>h A fr g R s vf vs ⟨rm.hh,rm.hf,rmD k rm.hd,rmU k rm.hu,rm.gd⟩
theorem FN_c(h:FN w os lv a as σ Q X):FNc w os lv a as σ Q X:=λA fr g R s vf vs rm fo rel wd hgs hos e dvs=>codeC_of (h A fr g R s vf vs rm fo rel wd hgs hos e dvs)
end
section
end
section
theorem C_isiF{T:String}(hT:T∈isiT)(h:Q (.bool false) σ)(hd:autoParam (true=(isiN d).isSome) auR)(e:autoParam (false=isi d T) auR):OC c (.blt "isinstance") [d,.typ T] ρ σ Q X:=qEG hT hd.symm (by rw[e.symm];exact h)
theorem C_isiT{T:String}(hT:T∈isiT)(h:Q (.bool true) σ)(hd:autoParam (true=(isiN d).isSome) auR)(e:autoParam (true=isi d T) auR):OC c (.blt "isinstance") [d,.typ T] ρ σ Q X:=qEG hT hd.symm (by rw[e.symm];exact h)
end
theorem qAA:ClOk c []:=λx a h=>nomatch h
theorem qAH(h1:c.env.cells.lookup x=some a)(h2:c.env.kindOf x=some .cell∨c.env.kindOf x=some .free)(h:ClOk c cl):ClOk c ((x,a)::cl):=λy b e=>by
 rw[List.lookup_cons]at e
 cases q:y==x with
 |true=>rw[q]at e;injection e with e;subst e;rw[beq_iff_eq.mp q];exact⟨h1,h2⟩
 |false=>rw[q]at e;exact h y b e
theorem allG:(globV.map λp=>globV.lookup p.1)=globV.map (λp=>some p.2):=by kernel_rfl
theorem qA0(i:Nat)(h:globV[i]? =some (x,v)):globV.lookup x=some v:=qC3 allG (x,v) (List.mem_of_getElem? h)
abbrev NG(x:Str)(d:D):Prop:=∀{c:Cx} {ρ:Ro} {σ:Sg} {Q:D→Sg→Prop} {X:Addr→Sg→Prop} {p:Pos} (_:Q d σ) (_:c.env.kindOf x=some .globalImplicit:=by with_unfolding_all rfl),WE c (.Name x p) ρ σ Q X
theorem N_NameFault:NG "NameFault" (.obj 52):=λh k=>WE_glob k (qA0 1 rfl) rfl h
theorem qCK:globV.lookup ("LogFault":Str)=some (Value.ref 64):=qA0 2 rfl
theorem N_LogFault:NG "LogFault" (.obj 64):=λh k=>WE_glob k (qA0 2 rfl) rfl h
theorem qBC:globV.lookup ("StoreFault":Str)=some (Value.ref 76):=qA0 3 rfl
theorem N_StoreFault:NG "StoreFault" (.obj 76):=λh k=>WE_glob k (qA0 3 rfl) rfl h
theorem N_SYSTEM:NG "SYSTEM" (.str "\\Seen \\Answered \\Flagged \\Deleted \\Draft"):=λh k=>WE_glob k (qA0 4 rfl) rfl h
theorem N_NO_KEYWORD:NG "NO_KEYWORD" (.str "(){ %*\"\\]"):=λh k=>WE_glob k (qA0 5 rfl) rfl h
theorem N_MOST_KEYWORD:NG "MOST_KEYWORD" (.int 60):=λh k=>WE_glob k (qA0 6 rfl) rfl h
theorem N_system_flags:NG "system_flags" (.obj 85):=λh k=>WE_glob k (qA0 7 rfl) rfl h
theorem N_is_keyword:NG "is_keyword" (.obj 92):=λh k=>WE_glob k (qA0 8 rfl) rfl h
theorem N_flag_name:NG "flag_name" (.obj 99):=λh k=>WE_glob k (qA0 9 rfl) rfl h
theorem N_flag_tuple:NG "flag_tuple" (.obj 106):=λh k=>WE_glob k (qA0 10 rfl) rfl h
theorem N_Letter:NG "Letter" (.obj 137):=λh k=>WE_glob k (qA0 11 rfl) rfl h
theorem N_Box:NG "Box" (.obj 175):=λh k=>WE_glob k (qA0 12 rfl) rfl h
theorem N_place_of:NG "place_of" (.obj 191):=λh k=>WE_glob k (qA0 14 rfl) rfl h
theorem N_raised:NG "raised" (.obj 198):=λh k=>WE_glob k (qA0 15 rfl) rfl h
theorem N_add_letter:NG "add_letter" (.obj 205):=λh k=>WE_glob k (qA0 16 rfl) rfl h
theorem N_set_flags:NG "set_flags" (.obj 212):=λh k=>WE_glob k (qA0 17 rfl) rfl h
theorem N_flags_after:NG "flags_after" (.obj 217):=λh k=>WE_glob k (qA0 18 rfl) rfl h
theorem N_expunge:NG "expunge" (.obj 222):=λh k=>WE_glob k (qA0 19 rfl) rfl h
theorem N_copy_letters:NG "copy_letters" (.obj 227):=λh k=>WE_glob k (qA0 20 rfl) rfl h
theorem N_move_letters:NG "move_letters" (.obj 232):=λh k=>WE_glob k (qA0 21 rfl) rfl h
theorem N_is_refused:NG "is_refused" (.obj 244):=λh k=>WE_glob k (qA0 23 rfl) rfl h
theorem N_store_flags:NG "store_flags" (.obj 250):=λh k=>WE_glob k (qA0 24 rfl) rfl h
theorem N_distinct:NG "distinct" (.obj 257):=λh k=>WE_glob k (qA0 25 rfl) rfl h
theorem N_forget_gone:NG "forget_gone" (.obj 262):=λh k=>WE_glob k (qA0 26 rfl) rfl h
theorem N_MOST_DEPTH:NG "MOST_DEPTH" (.int 20):=λh k=>WE_glob k (qA0 27 rfl) rfl h
theorem N_MODULUS:NG "MODULUS" (.int 65521):=λh k=>WE_glob k (qA0 28 rfl) rfl h
theorem N_SUM_WIDTH:NG "SUM_WIDTH" (.int 4):=λh k=>WE_glob k (qA0 29 rfl) rfl h
theorem N_LAST_SIGN:NG "LAST_SIGN" (.int 1114111):=λh k=>WE_glob k (qA0 30 rfl) rfl h
theorem N_NUMBER:NG "NUMBER" (.int 105):=λh k=>WE_glob k (qA0 31 rfl) rfl h
theorem N_TEXT:NG "TEXT" (.int 116):=λh k=>WE_glob k (qA0 32 rfl) rfl h
theorem N_OCTETS:NG "OCTETS" (.int 111):=λh k=>WE_glob k (qA0 33 rfl) rfl h
theorem N_ROW:NG "ROW" (.int 114):=λh k=>WE_glob k (qA0 34 rfl) rfl h
theorem N_count_octets:NG "count_octets" (.obj 269):=λh k=>WE_glob k (qA0 35 rfl) rfl h
theorem N_read_count:NG "read_count" (.obj 276):=λh k=>WE_glob k (qA0 36 rfl) rfl h
theorem N_folded_number:NG "folded_number" (.obj 283):=λh k=>WE_glob k (qA0 37 rfl) rfl h
theorem N_plain_number:NG "plain_number" (.obj 290):=λh k=>WE_glob k (qA0 38 rfl) rfl h
theorem N_text_codes:NG "text_codes" (.obj 297):=λh k=>WE_glob k (qA0 39 rfl) rfl h
theorem N_value_octets:NG "value_octets" (.obj 302):=λh k=>WE_glob k (qA0 40 rfl) rfl h
theorem N_read_text:NG "read_text" (.obj 309):=λh k=>WE_glob k (qA0 41 rfl) rfl h
theorem N_read_some:NG "read_some" (.obj 316):=λh k=>WE_glob k (qA0 42 rfl) rfl h
theorem N_read_value:NG "read_value" (.obj 323):=λh k=>WE_glob k (qA0 43 rfl) rfl h
theorem N_is_row:NG "is_row" (.obj 330):=λh k=>WE_glob k (qA0 44 rfl) rfl h
theorem N_row_octets:NG "row_octets" (.obj 337):=λh k=>WE_glob k (qA0 45 rfl) rfl h
theorem N_read_row:NG "read_row" (.obj 344):=λh k=>WE_glob k (qA0 46 rfl) rfl h
theorem N_adler:NG "adler" (.obj 351):=λh k=>WE_glob k (qA0 47 rfl) rfl h
theorem N_sum_octets:NG "sum_octets" (.obj 358):=λh k=>WE_glob k (qA0 48 rfl) rfl h
theorem N_framed:NG "framed" (.obj 365):=λh k=>WE_glob k (qA0 49 rfl) rfl h
theorem N_row_at:NG "row_at" (.obj 372):=λh k=>WE_glob k (qA0 50 rfl) rfl h
theorem N_upper_text:NG "upper_text" (.obj 377):=λh k=>WE_glob k (qA0 51 rfl) rfl h
theorem N_DELIMITER:NG "DELIMITER" (.str "/"):=λh k=>WE_glob k (qA0 52 rfl) rfl h
theorem N_INBOX_names:NG "INBOX_names" (.str "INBOX"):=λh k=>WE_glob k (qA0 53 rfl) rfl h
theorem N_WILD_SIGNS:NG "WILD_SIGNS" (.str "%*"):=λh k=>WE_glob k (qA0 54 rfl) rfl h
theorem N_is_half:NG "is_half" (.obj 384):=λh k=>WE_glob k (qA0 55 rfl) rfl h
theorem N_first_part:NG "first_part" (.obj 391):=λh k=>WE_glob k (qA0 56 rfl) rfl h
theorem N_normal_name:NG "normal_name" (.obj 398):=λh k=>WE_glob k (qA0 57 rfl) rfl h
theorem N_is_barred_code:NG "is_barred_code" (.obj 405):=λh k=>WE_glob k (qA0 58 rfl) rfl h
theorem N_check_name:NG "check_name" (.obj 412):=λh k=>WE_glob k (qA0 59 rfl) rfl h
theorem N_is_below:NG "is_below" (.obj 419):=λh k=>WE_glob k (qA0 60 rfl) rfl h
theorem N_INBOX_store:NG "INBOX_store" (.str "INBOX"):=λh k=>WE_glob k (qA0 61 rfl) rfl h
theorem N_MOST:NG "MOST" (.int 4294967295):=λh k=>WE_glob k (qA0 62 rfl) rfl h
theorem N_MOST_MODSEQ:NG "MOST_MODSEQ" (.int 9223372036854775807):=λh k=>WE_glob k (qA0 63 rfl) rfl h
theorem N_SHAPES:NG "SHAPES" (.str "create:tn delete:t rename:tt append:tfno flags:tnf store:tutfn expunge:tu copy:tut move:tut subscribe:t unsubscribe:t forget:tn snapshot:nfr"):=λh k=>WE_glob k (qA0 64 rfl) rfl h
theorem N_Store:NG "Store" (.obj 462):=λh k=>WE_glob k (qA0 65 rfl) rfl h
theorem N_is_number:NG "is_number" (.obj 473):=λh k=>WE_glob k (qA0 66 rfl) rfl h
theorem N_are_texts:NG "are_texts" (.obj 478):=λh k=>WE_glob k (qA0 67 rfl) rfl h
theorem N_are_numbers:NG "are_numbers" (.obj 483):=λh k=>WE_glob k (qA0 68 rfl) rfl h
theorem N_fits_shape:NG "fits_shape" (.obj 490):=λh k=>WE_glob k (qA0 69 rfl) rfl h
theorem N_check_row:NG "check_row" (.obj 497):=λh k=>WE_glob k (qA0 70 rfl) rfl h
theorem N_settled_name:NG "settled_name" (.obj 504):=λh k=>WE_glob k (qA0 71 rfl) rfl h
theorem N_need_modseqs:NG "need_modseqs" (.obj 511):=λh k=>WE_glob k (qA0 72 rfl) rfl h
theorem N_need_room:NG "need_room" (.obj 518):=λh k=>WE_glob k (qA0 73 rfl) rfl h
theorem N_need_new:NG "need_new" (.obj 525):=λh k=>WE_glob k (qA0 74 rfl) rfl h
theorem N_need_validity:NG "need_validity" (.obj 532):=λh k=>WE_glob k (qA0 75 rfl) rfl h
theorem N_need_uids:NG "need_uids" (.obj 537):=λh k=>WE_glob k (qA0 76 rfl) rfl h
theorem N_create_box:NG "create_box" (.obj 544):=λh k=>WE_glob k (qA0 77 rfl) rfl h
theorem N_delete_box:NG "delete_box" (.obj 551):=λh k=>WE_glob k (qA0 78 rfl) rfl h
theorem N_renamed_pairs:NG "renamed_pairs" (.obj 558):=λh k=>WE_glob k (qA0 79 rfl) rfl h
theorem N_rename_box:NG "rename_box" (.obj 563):=λh k=>WE_glob k (qA0 80 rfl) rfl h
theorem N_rename_inbox:NG "rename_inbox" (.obj 570):=λh k=>WE_glob k (qA0 81 rfl) rfl h
theorem N_append_letter:NG "append_letter" (.obj 577):=λh k=>WE_glob k (qA0 82 rfl) rfl h
theorem N_flag_letter:NG "flag_letter" (.obj 584):=λh k=>WE_glob k (qA0 83 rfl) rfl h
theorem N_store_letters:NG "store_letters" (.obj 591):=λh k=>WE_glob k (qA0 84 rfl) rfl h
theorem N_expunge_letters:NG "expunge_letters" (.obj 598):=λh k=>WE_glob k (qA0 85 rfl) rfl h
theorem N_copy_or_move:NG "copy_or_move" (.obj 603):=λh k=>WE_glob k (qA0 86 rfl) rfl h
theorem N_subscribe_name:NG "subscribe_name" (.obj 610):=λh k=>WE_glob k (qA0 87 rfl) rfl h
theorem N_unsubscribe_name:NG "unsubscribe_name" (.obj 615):=λh k=>WE_glob k (qA0 88 rfl) rfl h
theorem N_apply:NG "apply" (.obj 646):=λh k=>WE_glob k (qA0 93 rfl) rfl h
theorem N_Keeper:NG "Keeper" (.obj 685):=λh k=>WE_glob k (qA0 94 rfl) rfl h
theorem N_ulaw_box:NG "_law_box" (.obj 694):=λh k=>WE_glob k (qA0 95 rfl) rfl h
theorem N_ulaw_draw:NG "_law_draw" (.obj 701):=λh k=>WE_glob k (qA0 96 rfl) rfl h
theorem N_ulaw_name:NG "_law_name" (.obj 708):=λh k=>WE_glob k (qA0 97 rfl) rfl h
theorem N_ulaw_flags:NG "_law_flags" (.obj 713):=λh k=>WE_glob k (qA0 98 rfl) rfl h
theorem N_ulaw_uids:NG "_law_uids" (.obj 718):=λh k=>WE_glob k (qA0 99 rfl) rfl h
theorem N_ulaw_deed:NG "_law_deed" (.obj 723):=λh k=>WE_glob k (qA0 100 rfl) rfl h
theorem N_ulaw_any:NG "_law_any" (.obj 730):=λh k=>WE_glob k (qA0 101 rfl) rfl h
theorem N_ulaw_heard:NG "_law_heard" (.obj 737):=λh k=>WE_glob k (qA0 102 rfl) rfl h
theorem N_len:NG "len" (.blt "len"):=λh k=>WE_blt k (List.mem_of_getElem? (i:=0) rfl) (v:=.builtin "len") rfl rfl h
theorem N_int:NG "int" (.typ "int"):=λh k=>WE_blt k (List.mem_of_getElem? (i:=1) rfl) (v:=.type "int") rfl rfl h
theorem N_abs:NG "abs" (.blt "abs"):=λh k=>WE_blt k (List.mem_of_getElem? (i:=2) rfl) (v:=.builtin "abs") rfl rfl h
theorem N_ord:NG "ord" (.blt "ord"):=λh k=>WE_blt k (List.mem_of_getElem? (i:=3) rfl) (v:=.builtin "ord") rfl rfl h
theorem N_chr:NG "chr" (.blt "chr"):=λh k=>WE_blt k (List.mem_of_getElem? (i:=4) rfl) (v:=.builtin "chr") rfl rfl h
theorem N_min:NG "min" (.blt "min"):=λh k=>WE_blt k (List.mem_of_getElem? (i:=5) rfl) (v:=.builtin "min") rfl rfl h
theorem N_range:NG "range" (.typ "range"):=λh k=>WE_blt k (List.mem_of_getElem? (i:=6) rfl) (v:=.type "range") rfl rfl h
theorem N_bytes:NG "bytes" (.typ "bytes"):=λh k=>WE_blt k (List.mem_of_getElem? (i:=7) rfl) (v:=.type "bytes") rfl rfl h
theorem N_bytearray:NG "bytearray" (.typ "bytearray"):=λh k=>WE_blt k (List.mem_of_getElem? (i:=8) rfl) (v:=.type "bytearray") rfl rfl h
theorem N_tuple:NG "tuple" (.typ "tuple"):=λh k=>WE_blt k (List.mem_of_getElem? (i:=9) rfl) (v:=.type "tuple") rfl rfl h
theorem N_sorted:NG "sorted" (.blt "sorted"):=λh k=>WE_blt k (List.mem_of_getElem? (i:=10) rfl) (v:=.builtin "sorted") rfl rfl h
theorem N_list:NG "list" (.typ "list"):=λh k=>WE_blt k (List.mem_of_getElem? (i:=11) rfl) (v:=.type "list") rfl rfl h
theorem N_isinstance:NG "isinstance" (.blt "isinstance"):=λh k=>WE_blt k (List.mem_of_getElem? (i:=12) rfl) (v:=.builtin "isinstance") rfl rfl h
theorem N_all:NG "all" (.blt "all"):=λh k=>WE_blt k (List.mem_of_getElem? (i:=13) rfl) (v:=.builtin "all") rfl rfl h
theorem N_zip:NG "zip" (.typ "zip"):=λh k=>WE_blt k (List.mem_of_getElem? (i:=14) rfl) (v:=.type "zip") rfl rfl h
theorem N_bool:NG "bool" (.typ "bool"):=λh k=>WE_blt k (List.mem_of_getElem? (i:=16) rfl) (v:=.type "bool") rfl rfl h
theorem N_str:NG "str" (.typ "str"):=λh k=>WE_blt k (List.mem_of_getElem? (i:=17) rfl) (v:=.type "str") rfl rfl h
section
theorem qCo(hz:(cntL n).length≤sizeLine)(h:Q (.bytes (cntL n).toArray) σ):FNc w os (lv+1) 269 [.int n] σ Q X:=by
 refine qHX ?_
 refine qBx ["number"] rfl (len1 λ_=>rfl) λA fr L=>?_
 walk_at"c"
 refine C_barr λa na=>?_
 walk_at"c"
 refine qJU rfl (λk ρ τ=>∃(r:Nat) (acc:Array UInt8),k=r∧ρ=([("number",.int n),("found",.obj a),("rest",.int r)]:Ro)∧τ=σ.set a (.barr acc)∧acc.toList++cntL r=cntL n) n (y24 n (#[]) rfl rfl rfl rfl) ?_
 rintro k ρ1 τ1 ⟨r,acc,rfl,rfl,rfl,e⟩
 walk_at"c1"
 walk_at"e"
 by_cases q:k > 127
 ·refine qIl (by simpa using Int.ofNat_lt.mpr q) ?_
  walk_at"c"
  refine(.mk _ _ (qEX (Sg.set_same _ _ _)) qAD ?_)
  walk_at"c"
  refine qE2 (by decide) ?_
  walk_at"c"
  rw[show(k:Int).fmod 128=((k % 128:Nat):Int) from fmodN k 128]
  have hp:=qDG (k / 128)
  rw[qBh q]at e
  have hs:acc.size+(1+(cntL (k / 128)).length)=(cntL n).length:=by rw[←e];simp[Nat.add_comm]
  refine qGM (Sg.set_same _ _ _) ⟨Int.natCast_nonneg (128+k % 128),Int.ofNat_lt.mpr (Nat.add_lt_add_left (Nat.mod_lt k (by decide)) 128)⟩ (by omega) ?_
  rw[Sg.set_set]
  walk_at"c"
  refine qE3 (by decide) noPy ?_
  walk_at"c"
  refine(y12 (k / 128) (by omega) ⟨k / 128,acc.push (128+k % 128).toUInt8,rfl,?_,?_,?_⟩)
  ·rw[show(k:Int).fdiv 128=((k / 128:Nat):Int) from fdivN k 128];rfl
  ·rw[show(128+((k % 128:Nat):Int)).toNat=128+k % 128 from rfl]
  ·rw[Array.toList_push,List.append_assoc];exact e
 ·refine qIm (by simp;omega) ?_
  rw[qAW q]at e
  have hs:acc.size+1=(cntL n).length:=by rw[←e];simp
  walk_at"c"
  refine(.mk _ _ (qEX (Sg.set_same _ _ _)) qAD ?_)
  walk_at"c"
  refine qGM (Sg.set_same _ _ _) (by omega) (by omega) ?_
  rw[Sg.set_set]
  walk_at"c"
  refine OC.lift (qHb (Sg.set_same _ _ _) (by simp;omega) ?_)
  have e':acc.push ((k:Int).toNat.toUInt8)=(cntL n).toArray:=by
   rw[←e];apply Array.ext';simp
  rw[e']
  exact(y12 σ (Sg.sub_set na) h)
end
inductive V where
 |int(i:Int)
 |str(x:Str)
 |bytes(b:Array UInt8)
 |tup(l:List V)
noncomputable def qCg(n:Int):Nat:=if n ≥ 0 then(2 * n).toNat else(-2 * n - 1).toNat
theorem qGd{n:Int}(q:n ≥ 0):(qCg n:Int)=2 * n:=(congrArg _ (if_pos q)).trans (Int.toNat_of_nonneg (Int.mul_nonneg (by decide) q))
theorem qGe{n:Int}(q:¬n ≥ 0):(qCg n:Int)= -2 * n - 1:=(congrArg _ (if_neg q)).trans (Int.toNat_of_nonneg (by omega))
theorem foldN_o{n:Int}(q:¬n ≥ 0):(qCg n:Int)=1+2 * (-n - 1):=(qGe q).trans (by omega)
noncomputable def txtL(x:Str):List UInt8:=x.cps.toList.flatMap cntL
mutual
noncomputable def V.toD:V→D
 | .int i=>.int i
 | .str x=>.str x
 | .bytes b=>.bytes b
 | .tup l=>.tup (V.toDs l)
noncomputable def V.toDs:List V→List D
 | []=>[]
 |v::r=>v.toD::V.toDs r
end
mutual
noncomputable def V.enc:V→List UInt8
 | .int i=>105::cntL (qCg i)
 | .str x=>116::(cntL x.length++txtL x)
 | .bytes b=>111::(cntL b.size++b.toList)
 | .tup l=>114::(cntL l.length++V.encs l)
noncomputable def V.encs:List V→List UInt8
 | []=>[]
 |v::r=>v.enc++V.encs r
end
mutual
noncomputable def V.dep:V→Nat
 | .tup l=>V.deps l+1
 | .int _=>0
 | .str _=>0
 | .bytes _=>0
noncomputable def V.deps:List V→Nat
 | []=>0
 |v::r=>max v.dep (V.deps r)
end
theorem V.toDs_map(l:List V):V.toDs l=l.map V.toD:=by
 induction l with
 |nil=>rfl
 |cons v r ih=>exact congrArg (v.toD:: ·) ih
theorem V.dep_mem{v:V}{l:List V}(h:v∈l):v.dep≤V.deps l:=by
 induction l with
 |nil=>cases h
 |cons u r ih=>
  rw[V.deps]
  rcases List.mem_cons.mp h with e|h
  ·rw[e];exact Nat.le_max_left _ _
  ·exact Nat.le_trans (ih h) (Nat.le_max_right _ _)
theorem V.enc_mem{v:V}{l:List V}(h:v∈l):v.enc.length≤(V.encs l).length:=by
 induction l with
 |nil=>cases h
 |cons u r ih=>
  rw[V.encs,List.length_append]
  rcases List.mem_cons.mp h with e|h
  ·rw[e];exact Nat.le_add_right _ _
  ·exact Nat.le_trans (ih h) (Nat.le_add_left _ _)
section
theorem f_folded{n:Int}(h:Q (.int (qCg n)) σ):FN w os (lv+1) 283 [.int n] σ Q X:=by
 refine qA5 ["number"] rfl (len1 λ_=>rfl) λA fr L=>?_
 walk_at"e"
 by_cases q:n ≥ 0
 ·refine if_bt (by simpa using q) ?_
  walk_at"e"
  refine qEF (IntMulOk.of_left (by decide)) ?_
  rw[qGd q]at h
  exact h
 ·refine if_bf (by simpa using q) ?_
  walk_at"e"
  refine qEF (IntMulOk.of_left (by decide)) ?_
  walk_at"e"
  rw[qGe q]at h
  exact h
theorem f_text(hz:(txtL x).length≤sizeLine)(h:Q (.bytes (txtL x).toArray) σ):FNc w os (lv+2) 297 [.str x] σ Q X:=by
 refine qHX ?_
 refine qBx ["text"] rfl (len1 λ_=>rfl) λA fr L=>?_
 walk_at"c"
 refine C_barr λa na=>?_
 walk_at"c1"
 refine qGz (J:=λd τ=>d= .str x∧τ=σ.set a (.barr #[])) rfl (WE.lift ?_) ?_
 ·walk_at"e"
  exact⟨rfl,rfl⟩
 rintro d τ ⟨rfl,rfl⟩
 refine(.mk _ (λ_=>True) (qH2 rfl) (λi ρ τ=>∃(acc:Array UInt8),ρ.lookup ("found":Str)=some (.obj a)∧τ=σ.set a (.barr acc)∧acc.toList=(x.cps.toList.take i).flatMap cntL) (y13 (#[]) rfl rfl rfl) (λ_ _ _ _=>trivial) ?_ ?_)
 ·rintro i ρ1 τ1 d hd ⟨acc,hf,rfl,hacc⟩
  have hd':∃ch,x.cps.toList[i]? =some ch∧d= .str ⟨#[ch]⟩:=by
   unfold signs at hd
   rw[List.getElem?_map]at hd
   obtain⟨ch,e1,e2⟩:=Option.map_eq_some_iff.mp hd
   exact(y12 ch e1 e2.symm)
  obtain⟨ch,hch,rfl⟩:=hd'
  have hle:(((x.cps.toList.take (i+1)).flatMap cntL)).length≤(txtL x).length:=by
   unfold txtL
   conv=>rhs;rw[←List.take_append_drop (i+1) x.cps.toList,List.flatMap_append,List.length_append]
   omega
  rw[List.take_add_one,hch,List.flatMap_append,List.length_append,←hacc]at hle
  simp only[Option.toList_some,List.flatMap_cons,List.flatMap_nil,List.append_nil,Array.length_toList]at hle
  walk_at"e1"
  walk_at"c"
  refine(.mk _ _ (qIH (Sg.set_same _ _ _)) qAD ?_)
  walk_at"c"
  refine OC.lift (C_ord ?_)
  walk_at"c"
  refine qAP rfl (Nat.le_add_left 1 lv) (qCo (lv:=0) (by omega) ?_)
  walk_at"c"
  refine qJm (Sg.set_same _ _ _) (by have h1:(cntL ch).toArray.size=(cntL ch).length:=List.size_toArray;omega) ?_
  rw[Sg.set_set]
  walk_at"c"
  exact(y13 (acc++(cntL ch).toArray) (by walk_at"nm") rfl (by rw[List.take_add_one,hch,List.flatMap_append,Array.toList_append,hacc];simp))
 ·rintro ρ1 τ1 ⟨acc,hf,rfl,hacc⟩
  have hall:acc.toList=txtL x:=by rw[hacc];unfold txtL signs;rw[List.length_map,List.take_length]
  walk_at"c"
  refine OC.lift (qHb (Sg.set_same _ _ _) (by rw[←Array.length_toList,hall];exact hz) ?_)
  rw[show acc=(txtL x).toArray by rw[←hall]]
  exact(y12 σ (Sg.sub_set na) h)
end
theorem qH5(x:Str):x.length≤(txtL x).length:=by
 unfold txtL Str.length
 rw[←Array.length_toList]
 induction x.cps.toList with
 |nil=>simp
 |cons a r ih=>rw[List.flatMap_cons,List.length_append,List.length_cons];have:=qDG a;omega
theorem V.enc_pos(v:V):0 < v.enc.length:=by cases v <;> simp[V.enc]
theorem V.encs_len(l:List V):l.length≤(V.encs l).length:=by
 induction l with
 |nil=>exact Nat.le_refl _
 |cons v r ih=>rw[V.encs,List.length_append,List.length_cons];have:=v.enc_pos;omega
theorem catB_enc(l:List V):catB (l.map λv=>V.enc v |>.toArray)=(V.encs l).toArray:=by
 have k:∀(l:List V) (a:List UInt8),(l.map λv=>V.enc v |>.toArray).foldl (· ++ ·) a.toArray=(a++V.encs l).toArray:=by
  intro l
  induction l with
  |nil=>intro a;simp[V.encs]
  |cons v r ih=>intro a;rw[List.map_cons,List.foldl_cons,V.encs,←List.append_assoc,←ih];simp
 exact k l []
section
theorem qEM(d:Nat)(ih:∀e,d=e+1→∀(v:V) (k:Nat) {lv:Nat} {σ:Sg} {Q:D→Sg→Prop} {X:Addr→Sg→Prop},v.dep≤e→e+k≤20→v.enc.length≤16777216→Q (.bytes v.enc.toArray) σ→FNc w os (lv+e+3) 302 [v.toD,.int k] σ Q X):∀(v:V) (k:Nat) {lv:Nat} {σ:Sg} {Q:D→Sg→Prop} {X:Addr→Sg→Prop},v.dep≤d→d+k≤20→v.enc.length≤16777216→Q (.bytes v.enc.toArray) σ→FNc w os (lv+d+3) 302 [v.toD,.int k] σ Q X:=by
 intro v k lv σ Q X hd hk hz h
 cases v with
 |int i=>
  refine qBx ["value","depth"] rfl (len2 λ_ _=>rfl) λA fr L=>?_
  simp only[V.toD]
  walk_at"c"
  walk_at"isi"
  walk_at"e"
  walk_at"c"
  walk_at"isi"
  walk_at"e"
  walk_at"c"
  simp only[V.enc,List.length_cons]at hz
  refine qAP rfl (Nat.le_trans (Nat.le_add_left 1 (lv+d+1)) (Nat.le_refl _)) (FN_c (f_folded (lv:=0) ?_))
  walk_at"c"
  refine qAP rfl (Nat.le_trans (Nat.le_add_left 1 (lv+d+1)) (Nat.le_refl _)) (qCo (lv:=0) (by walk_at"sz") ?_)
  refine qBJ (show 1+(cntL (qCg i)).length≤16777216 from Nat.add_comm _ 1▸hz) ?_
  simp only[V.enc]at h
  exact(show(#[105]:Array UInt8)++(cntL (qCg i)).toArray=(105::cntL (qCg i)).toArray by simp)▸h
 |str x=>
  refine qBx ["value","depth"] rfl (len2 λ_ _=>rfl) λA fr L=>?_
  simp only[V.toD]
  simp only[V.enc,List.length_cons,List.length_append]at hz
  walk_at"c"
  walk_at"isi"
  walk_at"e"
  walk_at"c"
  walk_at"isi"
  walk_at"e"
  walk_at"c"
  walk_at"isi"
  walk_at"e"
  walk_at"c"
  refine OC.lift (qE6 (by have:=qH5 x;unfold sizeLine;omega) ?_)
  walk_at"c"
  have e1:(cntL x.length).toArray.size=(cntL x.length).length:=List.size_toArray
  have e2:(txtL x).toArray.size=(txtL x).length:=List.size_toArray
  refine qAP rfl (Nat.le_trans (Nat.le_add_left 1 (lv+d+1)) (Nat.le_refl _)) (qCo (lv:=0) (by walk_at"sz") ?_)
  refine qBJ (arA1 hz) ?_
  walk_at"c"
  refine qAP rfl (Nat.le_add_left 2 (lv+d)) (f_text (lv:=0) (by walk_at"sz") ?_)
  refine qBJ (arApp (arA2 hz)) ?_
  simp only[V.enc]at h
  exact arCon _ _ _▸h
 |bytes b=>
  refine qBx ["value","depth"] rfl (len2 λ_ _=>rfl) λA fr L=>?_
  simp only[V.toD]
  simp only[V.enc,List.length_cons,List.length_append]at hz
  walk_at"c"
  walk_at"isi"
  walk_at"e"
  walk_at"c"
  walk_at"isi"
  walk_at"e"
  walk_at"c"
  walk_at"isi"
  walk_at"e"
  walk_at"c"
  walk_at"isi"
  walk_at"e"
  walk_at"c"
  have e0:b.toList.length=b.size:=Array.length_toList
  refine OC.lift (qB6 (by walk_at"sz") ?_)
  walk_at"c"
  have e1:(cntL b.size).toArray.size=(cntL b.size).length:=List.size_toArray
  refine qAP rfl (Nat.le_trans (Nat.le_add_left 1 (lv+d+1)) (Nat.le_refl _)) (qCo (lv:=0) (by walk_at"sz") ?_)
  refine qBJ (arA1 hz) ?_
  walk_at"c"
  refine qBJ (arApp (arA2 hz)) ?_
  simp only[V.enc]at h
  exact(show(#[111]:Array UInt8)++(cntL b.size).toArray++b=(111::(cntL b.size++b.toList)).toArray by simp)▸h
 |tup l=>
  cases d with
  |zero=>simp[V.dep]at hd
  |succ d=>
   refine qBx ["value","depth"] rfl (len2 λ_ _=>rfl) λA fr L=>?_
   simp only[V.toD]
   simp only[V.enc,List.length_cons,List.length_append]at hz
   walk_at"c"
   walk_at"isi"
   walk_at"e"
   walk_at"c"
   walk_at"isi"
   walk_at"e"
   walk_at"c"
   walk_at"isi"
   walk_at"e"
   walk_at"c"
   walk_at"isi"
   walk_at"e"
   walk_at"c"
   walk_at"isi"
   walk_at"e"
   walk_at"c"
   refine if_bf (by simp;omega) ?_
   walk_at"c"
   have el:(V.toDs l).length=l.length:=by rw[V.toDs_map,List.length_map]
   have ll:=V.encs_len l
   refine OC.lift (qGI (by rw[el];unfold sizeLine;omega) ?_)
   rw[el]
   walk_at"c"
   have e1:(cntL l.length).toArray.size=(cntL l.length).length:=List.size_toArray
   have e2:(V.encs l).toArray.size=(V.encs l).length:=List.size_toArray
   refine qAP rfl (Nat.le_trans (Nat.le_add_left 1 (lv+(d+1)+1)) (Nat.le_refl _)) (qCo (lv:=0) (by walk_at"sz") ?_)
   refine qBJ (arA1 hz) ?_
   walk_at"c"
   refine(.mk _ _ GM_bjoin qAD ?_)
   walk_at"c1"
   refine qJN (cl:=[("depth",L+1)]) (ρ':=[("depth",.int k)]) ⟨rfl,by kernel_rfl!,rfl,qAH rfl (.inl rfl) qAA,(y03 (.inl rfl) rfl rfl),trivial⟩ ?_
   unfold COMPc
   walk_at"e"
   refine(.mk _ (λ_=>True) (by rw[el];unfold sizeLine;omega) (qCM rfl) (λi ys τ=>τ=σ∧ys=((l.take i).map λv=>V.enc v |>.toArray).map .bytes) ⟨rfl,rfl⟩ (λ_ _ _ _=>trivial) ?_ ?_)
   ·rintro i ys τ1 d1 hd1 ⟨rfl,rfl⟩ C
    rw[V.toDs_map,List.getElem?_map]at hd1
    obtain⟨v,hv,rfl⟩:=Option.map_eq_some_iff.mp hd1
    have hm:=List.mem_of_getElem? hv
    refine .mk ?_
    walk_at"c1"
    refine(.mk (RSub.of ⟨rfl,trivial⟩) ?_)
    walk_at"c1"
    walk_at"c"
    refine qAP rfl (Nat.le_of_eq (by show lv+d+3=lv+(d+1)+2;omega)) (ih d rfl v (k+1) (by simp only[V.dep]at hd;have:=V.dep_mem hm;omega) (by omega) (by have:=V.enc_mem hm;omega) ?_)
    exact⟨rfl,by rw[List.take_add_one,hv];simp⟩
   ·rintro ys τ1 ⟨rfl,rfl⟩ _
    walk_at"c"
    have ec:catB ((l.take (V.toDs l).length).map λv=>V.enc v |>.toArray)=(V.encs l).toArray:=by rw[el,List.take_length];exact catB_enc l
    refine OC.lift (C_bjoin (by rw[ec,List.size_toArray];unfold sizeLine;omega) ?_)
    rw[ec]
    refine qBJ (arApp (arA2 hz)) ?_
    simp only[V.enc]at h
    exact arCon _ _ _▸h
theorem f_value(d:Nat):∀(v:V) (k:Nat) {lv:Nat} {σ:Sg} {Q:D→Sg→Prop} {X:Addr→Sg→Prop},v.dep≤d→d+k≤20→v.enc.length≤16777216→Q (.bytes v.enc.toArray) σ→FNc w os (lv+d+3) 302 [v.toD,.int k] σ Q X:=by
 induction d with
 |zero=>exact qEM 0 λe h=>nomatch h
 |succ d ih=>exact qEM (d+1) λe h=>Nat.succ.inj h▸ih
end
noncomputable def adlS(p:Nat × Nat)(u:UInt8):Nat × Nat:=((p.1+u.toNat) % 65521,(p.2+(p.1+u.toNat) % 65521) % 65521)
noncomputable def adl(l:List UInt8):Nat:=let p:=l.foldl adlS (1,0);p.2 * 65536+p.1
noncomputable def sumI(n:Nat):List Int:=[Builtin.bitAnd ((n:Int).fdiv (2 ^ 24)) 255,Builtin.bitAnd ((n:Int).fdiv (2 ^ 16)) 255,Builtin.bitAnd ((n:Int).fdiv (2 ^ 8)) 255,Builtin.bitAnd (n:Int) 255]
noncomputable def sumB(n:Nat):Array UInt8:=byteArr (sumI n)
theorem qBo(n:Nat):(sumB n).size=4:=byteArr_size _
theorem qJI(x:Nat):0≤Builtin.bitAnd (x:Int) 255∧Builtin.bitAnd (x:Int) 255 < 256:=by
 have e:Builtin.bitAnd (x:Int) 255=((x &&& 255:Nat):Int):=by rfl
 rw[e]
 have:=Nat.and_le_right (n:=x) (m:=255)
 omega
theorem qHe(n:Nat):∀i∈sumI n,0≤i∧i < 256:=by
 intro i hi
 have k:∀m:Nat,(n:Int).fdiv ((m:Nat):Int)=((n / m:Nat):Int):=fdivN n
 unfold sumI at hi
 rw[show((2:Int) ^ 24)=((2 ^ 24:Nat):Int) by rfl,show((2:Int) ^ 16)=((2 ^ 16:Nat):Int) by rfl,show((2:Int) ^ 8)=((2 ^ 8:Nat):Int) by rfl,k,k,k]at hi
 simp only[List.mem_cons,List.not_mem_nil,or_false]at hi
 rcases hi with rfl|rfl|rfl|rfl <;> exact qJI _
def V.isRow(v:V):Prop:=∃x l,v= .tup (.str x::l)
noncomputable def qAF(v:V):List UInt8:=cntL v.enc.length++(sumB (adl v.enc)).toList++v.enc
theorem seq0{l:List D}(x:D):seqIndex? 0 (x::l).length=some 0:=by
 unfold seqIndex?
 simp
section
theorem qHK{l:List V}(hz:l.length < 16777216)(h:Q (.bool true) σ):FN w os (lv+1) 330 [V.toD (.tup (.str x::l))] σ Q X:=by
 refine qA5 ["value"] rfl (len1 λ_=>rfl) λA fr L=>?_
 simp only[V.toD,V.toDs]
 walk_at"e"
 walk_at"isi"
 walk_at"e"
 have el:(D.str x::V.toDs l).length=l.length+1:=by rw[List.length_cons,V.toDs_map,List.length_map]
 refine qGI (by rw[el];unfold sizeLine;omega) ?_
 walk_at"e"
 rw[show decide (((D.str x::V.toDs l).length:Int) > 0)=true from decide_eq_true (by rw[el];omega)]
 walk_at"e"
 refine qBK (k:=0) (seq0 _) rfl (by decide) ?_
 walk_at"e"
 exact C_isiT (by decide+kernel) h
theorem qFm{v:V}{d:Nat}(hr:v.isRow)(hd:v.dep≤d)(hk:d≤19)(hz:v.enc.length≤16777216)(h:Q (.bytes v.enc.toArray) σ):FNc w os (lv+d+4) 337 [v.toD] σ Q X:=by
 obtain⟨x,l,rfl⟩:=hr
 refine qBx ["row"] rfl (len1 λ_=>rfl) λA fr L=>?_
 walk_at"c"
 refine qA1 rfl (Nat.le_trans (Nat.le_add_left 1 (lv+d+2)) (Nat.le_refl _)) (qHK (lv:=0) (by simp only[V.enc,List.length_cons,List.length_append,V.encs]at hz;have:=V.encs_len l;have:=qDG (V.str x::l).length;simp only[List.length_cons]at this;omega) ?_)
 walk_at"c"
 exact qAP rfl (Nat.le_refl _) (f_value d _ 1 hd (by omega) hz h)
theorem qIu(h:Q (.int (adl b.toList)) σ):FN w os (lv+1) 351 [.bytes b] σ Q X:=by
 refine qA5 ["octets"] rfl (len1 λ_=>rfl) λA fr L=>?_
 walk_at"e"
 refine qBA (J:=λd τ=>d= .bytes b∧τ=σ) rfl ?_ ?_
 ·walk_at"e"
  exact⟨rfl,rfl⟩
 rintro d τ ⟨rfl,rfl⟩
 refine(.mk _ (λ_=>True) (qJZ rfl) (λi ρ τ1=>τ1=τ∧ρ.lookup ("low":Str)=some (.int (((b.toList.take i).foldl adlS (1,0)).1:Nat))∧ρ.lookup ("high":Str)=some (.int (((b.toList.take i).foldl adlS (1,0)).2:Nat))) (y03 rfl rfl rfl) (λ_ _ _ _=>trivial) ?_ ?_)
 ·rintro i ρ1 τ1 d hd ⟨rfl,h1,h2⟩
  rw[List.getElem?_map]at hd
  obtain⟨u,hu,rfl⟩:=Option.map_eq_some_iff.mp hd
  walk_at"e"
  refine qE2 (by decide) ?_
  walk_at"e"
  refine qE2 (by decide) ?_
  walk_at"e"
  have e1:(((List.foldl adlS (1,0) (List.take i b.toList)).1:Nat)+(u.toNat:Int)).fmod 65521=(((List.foldl adlS (1,0) (List.take i b.toList)).1+u.toNat) % 65521:Nat):=fmodN ((List.foldl adlS (1,0) (List.take i b.toList)).1+u.toNat) 65521
  rw[e1]
  have e2:(((List.foldl adlS (1,0) (List.take i b.toList)).2:Nat)+((((List.foldl adlS (1,0) (List.take i b.toList)).1+u.toNat) % 65521:Nat):Int)).fmod 65521=(((List.foldl adlS (1,0) (List.take i b.toList)).2+((List.foldl adlS (1,0) (List.take i b.toList)).1+u.toNat) % 65521) % 65521:Nat):=fmodN ((List.foldl adlS (1,0) (List.take i b.toList)).2+((List.foldl adlS (1,0) (List.take i b.toList)).1+u.toNat) % 65521) 65521
  rw[e2]
  have e3:List.foldl adlS (1,0) (List.take (i+1) b.toList)=adlS (List.foldl adlS (1,0) (List.take i b.toList)) u:=by rw[List.take_add_one,hu,List.foldl_append];rfl
  refine(y03 rfl ?_ ?_)
  ·rw[e3];walk_at"nm"
  ·rw[e3];walk_at"nm"
 ·rintro ρ1 τ1 ⟨rfl,h1,h2⟩
  rw[List.length_map,List.take_length]at h1 h2
  walk_at"e"
  refine qEF (IntMulOk.of_right (by decide)) ?_
  walk_at"e"
  rw[show(((List.foldl adlS (1,0) b.toList).2:Nat):Int) * 65536+((List.foldl adlS (1,0) b.toList).1:Nat)=(adl b.toList:Nat) by unfold adl;simp]
  exact h
theorem f_sum(h:Q (.bytes (sumB n)) σ):FN w os (lv+1) 358 [.int n] σ Q X:=by
 refine qA5 ["number"] rfl (len1 λ_=>rfl) λA fr L=>?_
 walk_at"e"
 refine qAR ?_
 walk_at"e"
 refine qJc (by decide) ?_
 walk_at"e"
 refine qIF ?_
 walk_at"e"
 refine qJc (by decide) ?_
 walk_at"e"
 refine qIF ?_
 walk_at"e"
 refine qJc (by decide) ?_
 walk_at"e"
 refine qIF ?_
 walk_at"e"
 refine qIF ?_
 walk_at"e"
 exact qFK (ns:=sumI n) rfl (qHe n) (show 4≤sizeLine by decide) h
end
section
theorem qF3{v:V}{d:Nat}(hr:v.isRow)(hd:v.dep≤d)(hk:d≤19)(hz:(qAF v).length≤16777216)(h:Q (.bytes (qAF v).toArray) σ):FNc w os (lv+d+5) 365 [v.toD] σ Q X:=by
 have hz':=hz
 unfold qAF at hz'
 rw[List.length_append,List.length_append]at hz'
 have e4:(sumB (adl v.enc)).toList.length=4:=by rw[Array.length_toList,qBo]
 have e1:(cntL v.enc.length).toArray.size=(cntL v.enc.length).length:=List.size_toArray
 have e2:v.enc.toArray.size=v.enc.length:=List.size_toArray
 refine qBx ["row"] rfl (len1 λ_=>rfl) λA fr L=>?_
 walk_at"c"
 refine qAP (lv:=lv+d+4) rfl (Nat.le_refl _) (qFm (d:=d) hr hd hk (by omega) ?_)
 walk_at"c"
 refine OC.lift (qB6 (by rw[e2];unfold sizeLine;omega) ?_)
 walk_at"c"
 rw[e2]
 refine qAP rfl (Nat.le_trans (Nat.le_add_left 1 (lv+d+3)) (Nat.le_refl _)) (qCo (lv:=0) (by walk_at"sz") ?_)
 walk_at"c"
 refine qAP rfl (Nat.le_trans (Nat.le_add_left 1 (lv+d+3)) (Nat.le_refl _)) (FN_c (qIu (lv:=0) ?_))
 walk_at"c"
 refine qAP rfl (Nat.le_trans (Nat.le_add_left 1 (lv+d+3)) (Nat.le_refl _)) (FN_c (f_sum (lv:=0) ?_))
 refine qBJ (by rw[qBo];omega) ?_
 walk_at"c"
 refine qBJ (by rw[Array.size_append,qBo];omega) ?_
 exact(show(cntL v.enc.length).toArray++sumB (adl v.enc.toArray.toList)++v.enc.toArray=(qAF v).toArray by unfold qAF;apply Array.ext';simp)▸h
end
section
variable {X':Addr→Sg→Prop}{C:Addr}{d1 d2:D}
theorem qHN(h:σ a=none){o o1 o2 o3:MO}:((((σ.set a o).set a o1).set a o2).set a o3).del a=σ:=by
 funext b
 unfold Sg.del Sg.set
 by_cases k:b=a
 ·simp[k,h]
 ·simp[k]
theorem X_two(hx:X C σ)(hC:autoParam (C∈excL) auD)(hb:autoParam (true=c.bare) auR)(hl:3≤c.lv)(hf:C≠76→d1.flat=true∧d2.flat=true):
  OC c (.obj C) [d1,d2] ρ σ (RaiseP X) X':=
 qA1 (lv:=3) hb.symm hl (qJp hC (show 2≤sizeLine by decide) λx hx'=>fn29_3 (C:=C) hC (Sg.set_same _ _ _) λdx=>⟨rfl,.mk x C dx d1 d2 rfl (Sg.set_same _ _ _) hC hf (by rw[qHN hx'];exact hx)⟩)
theorem X_one(hx:X C σ)(hC:autoParam (C∈excL) auD)(hb:autoParam (true=c.bare) auR)(hl:3≤c.lv)(hf:C≠76→d1.flat=true):
  OC c (.obj C) [d1] ρ σ (RaiseP X) X':=
 qA1 (lv:=3) hb.symm hl (qJp hC (show 1≤sizeLine by decide) λx hx'=>fn29_2 (C:=C) hC (Sg.set_same _ _ _) λdx=>⟨rfl,.mk x C dx d1 (.int (-1)) rfl (Sg.set_same _ _ _) hC (λk=>⟨hf k,rfl⟩) (by rw[qHN hx'];exact hx)⟩)
end
theorem qBY{α:Type}{l t:List α}{u:α}{s:Nat}(h:l.drop s=u::t):s < l.length∧l[s]? =some u∧l.drop (s+1)=t:=by
 have hs:s < l.length:=by
  rcases Nat.lt_or_ge s l.length with q|q
  ·exact q
  ·rw[List.drop_eq_nil_of_le q]at h;cases h
 rw[List.drop_eq_getElem_cons hs]at h
 injection h with h1 h2
 exact(y03 hs (by rw[List.getElem?_eq_getElem hs,h1]) h2)
theorem qCf{l:List UInt8}{s:Nat}{u:UInt8}(h:l[s]? =some u):l.getD s 0=u:=by rw[List.getD_eq_getElem?_getD,h];rfl
theorem qGp{s e:Nat}(h:s≤e)(he:e≤b.size):KBy.picked b (some (s:Int)) (some (e:Int))=((b.toList.drop s).take (e - s)).toArray:=by
 rw[KBc.picked_eq]
 show((b.toList.drop (clipAt b.size (s:Int))).take (clipAt b.size (e:Int) - clipAt b.size (s:Int))).toArray=_
 rw[clipAt_nat,clipAt_nat,Nat.min_eq_left he,Nat.min_eq_left (Nat.le_trans h he)]
theorem cut_head{e:Nat}(he:e≤b.size):KBy.picked b none (some (e:Int))=(b.toList.take e).toArray:=by
 rw[KBc.picked_eq]
 show((b.toList.drop 0).take (clipAt b.size (e:Int) - 0)).toArray=_
 rw[clipAt_nat,Nat.min_eq_left he];rfl
section
theorem f_plain{i:Int}(h:Q (.int i) σ):FN w os (lv+1) 290 [.int (qCg i)] σ Q X:=by
 refine qA5 ["count"] rfl (len1 λ_=>rfl) λA fr L=>?_
 walk_at"e"
 refine qE2 (by decide) ?_
 walk_at"e"
 by_cases q:i ≥ 0
 ·rw[qGd q,Int.mul_fmod_right]
  walk_at"e"
  refine qE3 (by decide) noPy ?_
  rw[Int.mul_fdiv_cancel_left _ (by decide)]
  exact h
 ·rw[foldN_o q,show((1:Int)+2 * (-i - 1)).fmod 2=1 from(Int.fmod_eq_emod_of_nonneg _ (by decide)).trans (Int.add_mul_emod_self_left 1 2 (-i - 1))]
  walk_at"e"
  refine qE3 (by decide) noPy ?_
  rw[show(-(1+2 * (-i - 1)+1):Int)=i * 2 by omega,Int.mul_fdiv_cancel _ (by decide)]
  exact h
theorem qAZ{m:Nat}{rest:List UInt8}(hz:b.size≤16777216)(hm:m < 2 ^ 60)(hd:b.toList.drop n=cntL m++rest)(h:Q (.tup [.int m,.int (n+(cntL m).length:Nat)]) σ):FN w os (lv+4) 276 [.bytes b,.int n] σ Q X:=by
 refine qA5 ["data","at"] rfl (len2 λ_ _=>rfl) λA fr L=>?_
 walk_at"e"
 refine qDH rfl (λk ρ τ=>∃(s r num wt:Nat),k=r∧ρ=([("data",.bytes b),("at",.int n),("number",.int num),("weight",.int wt),("spot",.int s)]:Ro)∧τ=σ∧b.toList.drop s=cntL r++rest∧num+wt * r=m∧n≤s∧(n < s→1≤r)∧s+(cntL r).length=n+(cntL m).length)
  m (y48 n m 0 1 rfl rfl rfl hd (by omega) (Nat.le_refl _) (λh=>absurd h (Nat.lt_irrefl _)) rfl) ?_
 rintro k ρ1 τ1 ⟨s,r,num,wt,rfl,rfl,rfl,hs,hnum,hns,hr,hlen⟩
 have hbl:b.toList.length=b.size:=Array.length_toList
 by_cases q:k > 127
 ·rw[qBh q,List.cons_append]at hs
  obtain⟨h1,h2,h3⟩:=qBY hs
  have hu:(b.toList.getD s 0).toNat=128+k % 128:=by rw[qCf h2];simp;omega
  walk_at"e"
  refine qB6 (by walk_at"sz") ?_
  walk_at"e"
  rw[decide_eq_true (show(s:Int) < (b.size:Int) by omega)]
  walk_at"e"
  refine qBT (k:=s) rfl (by omega) (by walk_at"sz") ?_
  rw[hu]
  walk_at"e"
  rw[decide_eq_true (show((128+k % 128:Nat):Int) > 127 by omega)]
  walk_at"e"
  refine qBT (k:=s) rfl (by omega) (by walk_at"sz") ?_
  rw[hu]
  walk_at"e"
  rw[show((128+k % 128:Nat):Int) - 128=((k % 128:Nat):Int) by omega]
  refine qEF (IntMulOk.of_left (intBits_le_64 (by omega) (by have:k % 128 < 128:=Nat.mod_lt _ (by decide);omega))) ?_
  walk_at"e"
  refine qEF (IntMulOk.of_right (by decide)) ?_
  walk_at"e"
  refine(y12 (k / 128) (by omega) ⟨s+1,k / 128,num+k % 128 * wt,wt * 128,rfl,rfl,rfl,h3,?_,by omega,λ_=>by omega,?_⟩)
  ·rw[←hnum]
   have:=Nat.div_add_mod k 128
   have e:wt * k=wt * (128 * (k / 128))+wt * (k % 128):=by rw[←Nat.mul_add,this]
   rw[e,Nat.mul_comm (k % 128) wt,Nat.mul_assoc wt 128]
   omega
  ·rw[qBh q,List.length_cons]at hlen;omega
 ·rw[qAW q,List.cons_append]at hs
  obtain⟨h1,h2,h3⟩:=qBY hs
  have hu:(b.toList.getD s 0).toNat=k:=by rw[qCf h2];simp;omega
  walk_at"e"
  refine qB6 (by walk_at"sz") ?_
  walk_at"e"
  rw[decide_eq_true (show(s:Int) < (b.size:Int) by omega)]
  walk_at"e"
  refine qBT (k:=s) rfl (by omega) (by walk_at"sz") ?_
  rw[hu]
  walk_at"e"
  rw[decide_eq_false (show ¬(k:Int) > 127 by omega)]
  walk_at"e"
  refine qB6 (by walk_at"sz") ?_
  walk_at"e"
  rw[decide_eq_false (show ¬(s:Int) ≥ (b.size:Int) by omega)]
  walk_at"e"
  refine qBT (k:=s) rfl (by omega) (by walk_at"sz") ?_
  rw[hu]
  walk_at"e"
  have fin:∀{c:Cx} {ρ:Ro},True:=λ{_ _}=>trivial
  by_cases k0:k=0
  ·subst k0
   have hsn:s=n:=by
    rcases Nat.lt_or_ge n s with z|z
    ·have:=hr z;omega
    ·omega
   subst hsn
   walk_at"e"
   rw[decide_eq_false (show ¬(s:Int) > (s:Int) by omega)]
   walk_at"e"
   refine qBT (k:=s) rfl (by omega) (by walk_at"sz") ?_
   rw[hu]
   walk_at"e"
   refine qEF (IntMulOk.of_left (intBits_le_64 (by omega) (by omega))) ?_
   walk_at"e"
   rw[show((num:Int)+(((0:Nat)):Int) * (wt:Int))=(m:Int) by have:=Nat.mul_comm wt 0;rw[←hnum];push_cast;rw[Int.mul_comm]]
   rw[show((s:Int)+1)=((s+(cntL m).length:Nat):Int) by rw[qAW q]at hlen;simp only[List.length_singleton]at hlen;omega]
   exact h
  ·rw[show((k:Int)==0)=false by rw[beq_eq_false_iff_ne];omega]
   walk_at"e"
   refine qBT (k:=s) rfl (by omega) (by walk_at"sz") ?_
   rw[hu]
   walk_at"e"
   refine qEF (IntMulOk.of_left (intBits_le_64 (by omega) (by omega))) ?_
   walk_at"e"
   rw[show((num:Int)+(k:Int) * (wt:Int))=(m:Int) by have:=Nat.mul_comm wt k;rw[←hnum];push_cast;rw[Int.mul_comm]]
   rw[show((s:Int)+1)=((n+(cntL m).length:Nat):Int) by rw[qAW q]at hlen;simp only[List.length_singleton]at hlen;omega]
   exact h
end
theorem qEK(x:Str):Txt.join "" (x.cps.toList.map λch=>⟨#[ch]⟩)=x:=by
 have k:∀(l:List Nat) (a:Array Nat),(l.map λch=>(⟨#[ch]⟩:Str)).foldl (λacc p=>acc++("":Str).cps++p.cps) a=a++l.toArray:=by
  intro l
  induction l with
  |nil=>intro a;simp
  |cons c r ih=>
   intro a
   rw[List.map_cons,List.foldl_cons,ih]
   have e0:("":Str).cps= #[]:=rfl
   rw[e0]
   apply Array.ext'
   simp
 unfold Txt.join Builtin.Str.glued
 obtain⟨⟨l⟩⟩:=x
 cases l with
 |nil=>rfl
 |cons c r=>
  show(⟨(r.map λch=>(⟨#[ch]⟩:Str)).foldl (λacc p=>acc++("":Str).cps++p.cps) #[c]⟩:Str)=_
  rw[k]
  congr 1
  apply Array.ext'
  simp
theorem qFQ(l:List Nat):((l.map λch=>(⟨#[ch]⟩:Str)).map (·.length)).sum=l.length:=by
 induction l with
 |nil=>rfl
 |cons c r ih=>rw[List.map_cons,List.map_cons,List.sum_cons,ih,List.length_cons];show 1+_=_;omega
section
theorem qDA(hz:b.size≤16777216)(hn:b.size≤n)(h:X 64 σ):FN w os (lv+4) 276 [.bytes b,.int n] σ Q X:=by
 refine qA5 ["data","at"] rfl (len2 λ_ _=>rfl) λA fr L=>?_
 walk_at"e"
 refine qDH rfl (λk ρ τ=>ρ=([("data",.bytes b),("at",.int n),("number",.int 0),("weight",.int 1),("spot",.int n)]:Ro)∧τ=σ) 0 ⟨rfl,rfl⟩ ?_
 rintro k ρ1 τ1 ⟨rfl,rfl⟩
 walk_at"e"
 refine qB6 (by walk_at"sz") ?_
 walk_at"e"
 rw[decide_eq_false (show ¬(n:Int) < (b.size:Int) by omega)]
 walk_at"e"
 refine qB6 (by walk_at"sz") ?_
 walk_at"e"
 rw[decide_eq_true (show(n:Int) ≥ (b.size:Int) by omega)]
 walk_at"e"
 walk_at"e"
 exact X_two (C:=64) (X:=X) h (by decide) rfl (Nat.le_add_left 3 lv) λ_=>⟨rfl,rfl⟩
theorem qGi{rest:List UInt8}(hz:b.size≤16777216)(hx:∀ch∈x.cps.toList,ch≤1114111)(hd:b.toList.drop n=txtL x++rest)(hn:n≤b.size)(h:Q (.tup [.str x,.int (n+(txtL x).length:Nat)]) σ):FN w os (lv+5) 309 [.bytes b,.int n,.int x.length] σ Q X:=by
 refine qCt ?_
 refine qA5 ["data","at","many"] rfl (len3 λ_ _ _=>rfl) λA fr L=>?_
 walk_at"e1"
 walk_at"e1"
 refine qBP ?_
 walk_at"e"
 intro a na
 have hbl:b.toList.length=b.size:=Array.length_toList
 have hdl:(b.toList.drop n).length=b.size - n:=by rw[List.length_drop,hbl]
 rw[hd,List.length_append]at hdl
 have hxl:=qH5 x
 have hfit:=arFit hdl hn hxl
 have hxs:=Nat.le_trans (Nat.le_add_left _ n) hfit
 walk_at"e"
 refine qBA (J:=λd τ=>∃t u v,d= .raw (rngO 0 x.length t u v)∧τ=σ.set a (.list [])) rfl ?_ ?_
 ·walk_at"e"
  refine qB6 (by walk_at"sz") ?_
  walk_at"e"
  refine C_min rfl ?_
  rw[if_neg (arCut hfit)]
  walk_at"e"
  exact qBE λt u v=>(y32 t u v rfl rfl)
 rintro d τ ⟨t,u,v,rfl,rfl⟩
 refine(.mk _ (λ_=>True) (qB4 rfl (by decide) (arRng hxs hz)) (λi ρ τ=>τ=σ.set a (.list ((x.cps.toList.take i).map λch=>.str ⟨#[ch]⟩))∧ρ.lookup ("data":Str)=some (.bytes b)∧ρ.lookup ("signs":Str)=some (.obj a)∧ρ.lookup ("spot":Str)=some (.int (n+((x.cps.toList.take i).flatMap cntL).length:Nat))) (y04 rfl rfl rfl rfl) (λ_ _ _ _=>trivial) ?_ ?_)
 ·rintro i ρ1 τ1 d hd' ⟨rfl,h1,h2,h3⟩
  walk_at"e"
  have hlen:x.cps.toList.length=x.length:=Array.length_toList
  have hi:i < x.length:=by
   exact qCR hd'
  obtain⟨ch,hch⟩:∃ch,x.cps.toList[i]? =some ch:=⟨_,List.getElem?_eq_getElem (by rw[hlen];exact hi)⟩
  have hchm:=hx ch (List.mem_of_getElem? hch)
  have hoff:b.toList.drop (n+((x.cps.toList.take i).flatMap cntL).length)=cntL ch++((x.cps.toList.drop (i+1)).flatMap cntL++rest):=by
   rw[←List.drop_drop,hd]
   unfold txtL
   rw[show x.cps.toList.flatMap cntL=(x.cps.toList.take i).flatMap cntL++(cntL ch++(x.cps.toList.drop (i+1)).flatMap cntL) by
    conv=>lhs;rw[←List.take_append_drop i x.cps.toList,List.flatMap_append]
    rw[List.drop_eq_getElem_cons (by rw[hlen];exact hi),List.flatMap_cons]
    rw[show x.cps.toList[i]'(by rw[hlen];exact hi)=ch by rw[List.getElem?_eq_getElem (by rw[hlen];exact hi)]at hch;injection hch]]
   rw[List.append_assoc,List.append_assoc,List.drop_left]
  refine qA1 (lv:=4) rfl (Nat.le_add_left 4 lv) (qAZ (lv:=0) hz (by omega) hoff ?_)
  refine qCD rfl (qAK (.inl rfl) (qAK (.inl rfl) (qBU ?_)))
  walk_at"e"
  rw[decide_eq_false (show ¬(ch:Int) > 1114111 by omega)]
  walk_at"e"
  refine(.mk _ _ (qB5 (Sg.set_same _ _ _)) qAD ?_)
  walk_at"e"
  refine C_chr (by omega) ?_
  walk_at"e"
  refine qBQ (Sg.set_same _ _ _) (by rw[List.length_map,List.length_take,hlen];exact arMin hxs hz) ?_
  rw[Sg.set_set]
  walk_at"e"
  have e9:(x.cps.toList.take (i+1)).flatMap cntL=(x.cps.toList.take i).flatMap cntL++cntL ch:=by rw[List.take_add_one,hch,List.flatMap_append];simp
  refine(y04 ?_ (by walk_at"nm") (by walk_at"nm") ?_)
  ·rw[List.take_add_one,hch];simp
  ·rw[e9,List.length_append,←Nat.add_assoc];walk_at"nm"
 ·rintro ρ1 τ1 ⟨rfl,h1,h2,h3⟩
  walk_at"e"
  have hlen:x.cps.toList.length=x.length:=Array.length_toList
  have hil:(qCJ 0 (x.length:Int)).length=x.length:=qBX _
  rw[hil]at h3 ⊢
  rw[List.take_of_length_le (Nat.le_of_eq hlen)]at h3 ⊢
  walk_at"e"
  refine C_joinO (ys:=x.cps.toList.map λch=>⟨#[ch]⟩) (by rw[Sg.set_same,List.map_map];rfl) (by rw[qFQ,List.length_map,hlen];have e0:("":Str).length=0:=rfl;rw[e0];omega) ?_
  rw[qEK]
  walk_at"e"
  exact(y12 σ (Sg.sub_set na) h)
end
mutual
def V.ok:V→Prop
 | .int i=>qCg i < 2 ^ 60
 | .str x=>(∀ch∈x.cps.toList,ch≤1114111)∧x.length < 2 ^ 60
 | .bytes b=>b.size < 2 ^ 60
 | .tup l=>l.length < 2 ^ 60∧V.oks l
def V.oks:List V→Prop
 | []=>True
 |v::r=>v.ok∧V.oks r
end
theorem V.ok_mem{v:V}{l:List V}(k:V.oks l)(h:v∈l):v.ok:=by
 induction l with
 |nil=>cases h
 |cons u r ih=>exact(List.mem_cons.mp h).elim (λe=>e▸k.1) λh=>ih k.2 h
theorem V.encs_app(a b:List V):V.encs (a++b)=V.encs a++V.encs b:=by
 induction a with
 |nil=>rfl
 |cons v r ih=>rw[List.cons_append,V.encs,V.encs,ih,List.append_assoc]
section
abbrev qJb(w:World)(os:OsState)(L:Nat)(d:Nat):Prop:=∀{σ:Sg} {Q:D→Sg→Prop} {X:Addr→Sg→Prop} {b:Array UInt8} {n k:Nat} {v:V} {rest:List UInt8},b.size≤16777216→v.ok→v.dep≤d→d+k≤19→b.toList.drop n=v.enc++rest→Q (.tup [v.toD,.int (n+v.enc.length:Nat)]) σ→FN w os L 323 [.bytes b,.int n,.int k] σ Q X
theorem qGj{d:Nat}(hv:qJb w os (lv+3) d){l:List V}{rest:List UInt8}(hz:b.size≤16777216)(ho:V.oks l)(hdep:V.deps l≤d)(hk:d+k+1≤19)(hd:b.toList.drop n=V.encs l++rest)(hn:n≤b.size)
  (h:Q (.tup [.tup (V.toDs l),.int (n+(V.encs l).length:Nat)]) σ):FN w os (lv+4) 316 [.bytes b,.int n,.int l.length,.int k] σ Q X:=by
 refine qCt ?_
 refine qA5 ["data","at","many","depth"] rfl (len4 λ_ _ _ _=>rfl) λA fr L=>?_
 walk_at"e"
 rw[decide_eq_false (show ¬(k:Int) > 20 by omega)]
 walk_at"e"
 refine qBP ?_
 walk_at"e"
 intro a na
 have hbl:b.toList.length=b.size:=Array.length_toList
 have hdl:(b.toList.drop n).length=b.size - n:=by rw[List.length_drop,hbl]
 rw[hd,List.length_append]at hdl
 have hxl:=V.encs_len l
 have hfit:=arFit hdl hn hxl
 have hxs:=Nat.le_trans (Nat.le_add_left _ n) hfit
 walk_at"e"
 refine qBA (J:=λd τ=>∃t u v,d= .raw (rngO 0 l.length t u v)∧τ=σ.set a (.list [])) rfl ?_ ?_
 ·walk_at"e"
  refine qB6 (by walk_at"sz") ?_
  walk_at"e"
  refine C_min rfl ?_
  rw[if_neg (arCut hfit)]
  walk_at"e"
  exact qBE λt u v=>(y32 t u v rfl rfl)
 rintro _ τ ⟨t,u,v,rfl,rfl⟩
 refine(.mk _ (λ_=>True) (qB4 rfl (by decide) (arRng hxs hz)) (λi ρ τ=>τ=σ.set a (.list ((l.take i).map V.toD))∧ρ.lookup ("data":Str)=some (.bytes b)∧ρ.lookup ("found":Str)=some (.obj a)∧ρ.lookup ("depth":Str)=some (.int k)∧ρ.lookup ("spot":Str)=some (.int (n+(V.encs (l.take i)).length:Nat))) (y05 rfl rfl rfl rfl rfl) (λ_ _ _ _=>trivial) ?_ ?_)
 ·rintro i ρ1 τ1 _ hd' ⟨rfl,h1,h2,h4,h3⟩
  have hi:i < l.length:=by
   exact qCR hd'
  obtain⟨v,hvi⟩:∃v,l[i]? =some v:=⟨_,List.getElem?_eq_getElem hi⟩
  have hm:=List.mem_of_getElem? hvi
  have hoff:b.toList.drop (n+(V.encs (l.take i)).length)=v.enc++(V.encs (l.drop (i+1))++rest):=by
   rw[←List.drop_drop,hd]
   rw[show V.encs l=V.encs (l.take i)++(v.enc++V.encs (l.drop (i+1))) by
    conv=>lhs;rw[←List.take_append_drop i l,V.encs_app]
    rw[List.drop_eq_getElem_cons hi,V.encs]
    rw[show l[i]=v by rw[List.getElem?_eq_getElem hi]at hvi;injection hvi]]
   rw[List.append_assoc,List.append_assoc,List.drop_left]
  walk_at"e"
  refine qA1 (lv:=lv+3) rfl (Nat.le_refl _) (hv (k:=k+1) hz (V.ok_mem ho hm) (Nat.le_trans (V.dep_mem hm) hdep) (by omega) hoff ?_)
  refine qCD rfl (qAK (.inl rfl) (qAK (.inl rfl) (qBU ?_)))
  walk_at"e"
  refine(.mk _ _ (qB5 (Sg.set_same _ _ _)) qAD ?_)
  walk_at"e"
  refine qBQ (Sg.set_same _ _ _) (by rw[List.length_map,List.length_take];exact arMin hxs hz) ?_
  rw[Sg.set_set]
  walk_at"e"
  have e9:l.take (i+1)=l.take i++ [v]:=by rw[List.take_add_one,hvi];rfl
  refine(y05 ?_ (by walk_at"nm") (by walk_at"nm") (by walk_at"nm") ?_)
  ·rw[e9,List.map_append];rfl
  ·rw[e9,V.encs_app,List.length_append,←Nat.add_assoc];simp only[V.encs,List.append_nil];walk_at"nm"
 ·rintro ρ1 τ1 ⟨rfl,h1,h2,h4,h3⟩
  have hil:(qCJ 0 (l.length:Int)).length=l.length:=qBX _
  rw[hil,List.take_length]at h3
  rw[hil,List.take_length]
  walk_at"e"
  refine C_tupL (Sg.set_same _ _ _) (by walk_at"sm") ?_
  walk_at"e"
  exact(y12 σ (Sg.sub_set na) (V.toDs_map l▸h))
end
section
theorem qBu(d:Nat)(ih:∀e,d=e+1→∀{lv:Nat},qJb w os (lv+2 * e+6) e):qJb w os (lv+2 * d+6) d:=by
 intro σ Q X b n k v rest hz ho hdep hk hd h
 cases v with
 |int i=>
  have hbl:b.toList.length=b.size:=Array.length_toList
  simp only[V.enc,List.cons_append,List.append_assoc]at hd
  obtain⟨h1,h2,h3⟩:=qBY hd
  have hu:(b.toList.getD n 0).toNat=105:=by rw[qCf h2];rfl
  refine qA5 ["data","at","depth"] rfl (len3 λ_ _ _=>rfl) λA fr L=>?_
  simp only[V.toD]at h
  walk_at"e"
  refine qB6 (by walk_at"sz") ?_
  walk_at"e"
  rw[decide_eq_false (show ¬(n:Int) ≥ (b.size:Int) from Int.not_le.mpr (Int.ofNat_lt.mpr (hbl▸h1)))]
  walk_at"e"
  refine qBT (k:=n) rfl (by omega) (by walk_at"sz") ?_
  rw[hu]
  walk_at"e"
  refine qFG (ns:=[105,116,111,114]) ?_
  rw[show(!decide (((105:Nat):Int)∈[(105:Int),116,111,114]))=false from rfl]
  walk_at"e"
  refine qA1 (lv:=4) rfl (by walk_at"lv") (qAZ (lv:=0) (n:=n+1) (m:=qCg i) hz (by simpa only[V.ok] using ho) h3 ?_)
  refine qCD rfl (qAK (.inl rfl) (qAK (.inl rfl) (qBU ?_)))
  walk_at"e"
  refine qA1 (lv:=1) rfl (by walk_at"lv") (f_plain (lv:=0) ?_)
  walk_at"e"
  rw[show((n+1+(cntL (qCg i)).length:Nat):Int)=((n+(V.int i).enc.length:Nat):Int) by simp only[V.enc,List.length_cons];omega]
  exact h
 |str x=>
  simp only[V.ok]at ho
  have hbl:b.toList.length=b.size:=Array.length_toList
  simp only[V.enc,List.cons_append,List.append_assoc]at hd
  obtain⟨h1,h2,h3⟩:=qBY hd
  have hu:(b.toList.getD n 0).toNat=116:=by rw[qCf h2];rfl
  refine qA5 ["data","at","depth"] rfl (len3 λ_ _ _=>rfl) λA fr L=>?_
  simp only[V.toD]at h
  walk_at"e"
  refine qB6 (by walk_at"sz") ?_
  walk_at"e"
  rw[decide_eq_false (show ¬(n:Int) ≥ (b.size:Int) from Int.not_le.mpr (Int.ofNat_lt.mpr (hbl▸h1)))]
  walk_at"e"
  refine qBT (k:=n) rfl (by omega) (by walk_at"sz") ?_
  rw[hu]
  walk_at"e"
  refine qFG (ns:=[105,116,111,114]) ?_
  rw[show(!decide (((116:Nat):Int)∈[(105:Int),116,111,114]))=false from rfl]
  walk_at"e"
  refine qA1 (lv:=4) rfl (by walk_at"lv") (qAZ (lv:=0) (n:=n+1) (m:=x.length) hz ho.2 h3 ?_)
  refine qCD rfl (qAK (.inl rfl) (qAK (.inl rfl) (qBU ?_)))
  walk_at"e"
  have hd4:b.toList.drop (n+1+(cntL x.length).length)=txtL x++rest:=by rw[←List.drop_drop,h3,List.drop_left]
  have hl3:=congrArg List.length h3
  rw[List.length_drop,List.length_append,hbl]at hl3
  refine qA1 (lv:=5) rfl (by walk_at"lv") (qGi (lv:=0) hz ho.1 hd4 (Nat.le_trans (Nat.le_add_right _ _) (arOff hl3 (hbl▸h1))) ?_)
  rw[show n+1+(cntL x.length).length+(txtL x).length=n+(V.str x).enc.length by simp only[V.enc,List.length_cons,List.length_append];exact arTag _ _ _]
  exact h
 |bytes y=>
  have hbl:b.toList.length=b.size:=Array.length_toList
  simp only[V.enc,List.cons_append,List.append_assoc]at hd
  obtain⟨h1,h2,h3⟩:=qBY hd
  have hu:(b.toList.getD n 0).toNat=111:=by rw[qCf h2];rfl
  refine qA5 ["data","at","depth"] rfl (len3 λ_ _ _=>rfl) λA fr L=>?_
  simp only[V.toD]at h
  walk_at"e"
  refine qB6 (by walk_at"sz") ?_
  walk_at"e"
  rw[decide_eq_false (show ¬(n:Int) ≥ (b.size:Int) from Int.not_le.mpr (Int.ofNat_lt.mpr (hbl▸h1)))]
  walk_at"e"
  refine qBT (k:=n) rfl (by omega) (by walk_at"sz") ?_
  rw[hu]
  walk_at"e"
  refine qFG (ns:=[105,116,111,114]) ?_
  rw[show(!decide (((111:Nat):Int)∈[(105:Int),116,111,114]))=false from rfl]
  walk_at"e"
  refine qA1 (lv:=4) rfl (by walk_at"lv") (qAZ (lv:=0) (n:=n+1) (m:=y.size) hz (by simpa only[V.ok] using ho) h3 ?_)
  refine qCD rfl (qAK (.inl rfl) (qAK (.inl rfl) (qBU ?_)))
  walk_at"e"
  have hd4:b.toList.drop (n+1+(cntL y.size).length)=y.toList++rest:=by rw[←List.drop_drop,h3,List.drop_left]
  have hl3:=congrArg List.length h3
  have hy:y.toList.length=y.size:=Array.length_toList
  rw[List.length_drop,List.length_append,List.length_append,hbl,hy]at hl3
  have hs3:=Nat.le_trans (Nat.le_add_right _ rest.length) (Nat.add_assoc (n+1+(cntL y.size).length) y.size rest.length▸arOff hl3 (hbl▸h1))
  refine qB6 (by walk_at"sz") ?_
  walk_at"e"
  rw[decide_eq_false (show ¬((n+1+(cntL y.size).length:Nat):Int)+(y.size:Int) > (b.size:Int) from Int.not_lt.mpr (Int.ofNat_le.mpr hs3))]
  walk_at"e"
  refine qDJ (by walk_at"sz") ?_
  rw[show((n+1+(cntL y.size).length:Nat):Int)+(y.size:Int)=((n+1+(cntL y.size).length+y.size:Nat):Int) from rfl]
  rw[qGp (Nat.le_add_right _ _) hs3,hd4,Nat.add_sub_cancel_left,List.take_left' Array.length_toList,Array.toArray_toList]
  walk_at"e"
  refine qDM ?_
  walk_at"e"
  rw[show((n+1+(cntL y.size).length:Nat):Int)+(y.size:Int)=((n+(V.bytes y).enc.length:Nat):Int) by simp only[V.enc,List.length_cons,List.length_append,Array.length_toList];exact congrArg Int.ofNat (arTag _ _ _)]
  exact h
 |tup l=>
  cases d with
  |zero=>simp[V.dep]at hdep
  |succ d=>
   simp only[V.ok]at ho
   have hbl:b.toList.length=b.size:=Array.length_toList
   simp only[V.enc,List.cons_append,List.append_assoc]at hd
   obtain⟨h1,h2,h3⟩:=qBY hd
   have hu:(b.toList.getD n 0).toNat=114:=by rw[qCf h2];rfl
   refine qA5 ["data","at","depth"] rfl (len3 λ_ _ _=>rfl) λA fr L=>?_
   simp only[V.toD]at h
   walk_at"e"
   refine qB6 (by walk_at"sz") ?_
   walk_at"e"
   rw[decide_eq_false (show ¬(n:Int) ≥ (b.size:Int) from Int.not_le.mpr (Int.ofNat_lt.mpr (hbl▸h1)))]
   walk_at"e"
   refine qBT (k:=n) rfl (by omega) (by walk_at"sz") ?_
   rw[hu]
   walk_at"e"
   refine qFG (ns:=[105,116,111,114]) ?_
   rw[show(!decide (((114:Nat):Int)∈[(105:Int),116,111,114]))=false from rfl]
   walk_at"e"
   refine qA1 (lv:=4) rfl (by walk_at"lv") (qAZ (lv:=0) (n:=n+1) (m:=l.length) hz ho.1 h3 ?_)
   refine qCD rfl (qAK (.inl rfl) (qAK (.inl rfl) (qBU ?_)))
   walk_at"e"
   have hd4:b.toList.drop (n+1+(cntL l.length).length)=V.encs l++rest:=by rw[←List.drop_drop,h3,List.drop_left]
   have hl3:=congrArg List.length h3
   rw[List.length_drop,List.length_append,hbl]at hl3
   simp only[V.dep]at hdep
   refine qA1 (lv:=lv+2 * d+7) rfl (by walk_at"lv") (qGj (lv:=lv+2 * d+3) (ih d rfl) hz ho.2 (by omega) (by omega) hd4 (Nat.le_trans (Nat.le_add_right _ _) (arOff hl3 (hbl▸h1))) ?_)
   rw[show n+1+(cntL l.length).length+(V.encs l).length=n+(V.tup l).enc.length by simp only[V.enc,List.length_cons,List.length_append];exact arTag _ _ _]
   exact h
theorem qFp(d:Nat):qJb w os (lv+2 * d+6) d:=by
 induction d generalizing lv with
 |zero=>exact qBu 0 λe h=>nomatch h
 |succ d ih=>exact qBu (d+1) λe h=>Nat.succ.inj h▸ih
end
section
theorem AS_mono{t:Expr}{N':Ro→Sg→Prop}(h:AS c t d ρ σ N X)(k:∀r τ,N r τ→N' r τ):AS c t d ρ σ N' X:=.mk λg R own s v S dv=>
 wpAny_mono (h.go g R own s v S dv) (λ_ _ o1'=>o1'.el λg' o' r' τ l S' n=>(.mk g' o' r' τ l S' (k _ _ n))) λ_ _ x=>x
theorem WT_mono{P P':Bool→Sg→Prop}(h:WT c ifs ρ σ P)(k:∀b τ,P b τ→P' b τ):WT c ifs ρ σ P':=.mk λg R own s S=>
 wpAny_mono (h.go g R own s S) (λ_ _ o2'=>o2'.el λg' τ l S' n=>(.mk g' τ l S' (k _ _ n))) λ_ _ x=>x
theorem qEa{target:Expr}{P P':Option D→Sg→Prop}(h:CBody c target elt ifs ρ' d σ P)(k:∀y τ,P y τ→P' y τ):CBody c target elt ifs ρ' d σ P':=
 .mk (AS_mono h.go λr τ o1'=>o1'.el λa b=>(.mk a (WT_mono b λb τ q=>by
  cases b with
  |true=>exact WE.mono q λy τ4 p=>k _ _ p
  |false=>exact k _ _ q)))
end
theorem qJn{target iter:Expr}{scope:Scope}{Fin:List D→Sg→Prop}(F:D→Option D)
  (h:WE c iter ρ σ (λd τ=>∃ds KS,ds.length≤sizeLine∧SRC c d ds KS ρ τ∧KS τ∧(∀(i:Nat) d',ds[i]? =some d'→∀C,CBody (c.comp scope cl C) target elt ifs ρ' d' τ (λy τ2=>y=F d'∧τ2=τ))∧Fin (ds.filterMap F) τ) X):
  COMP c target elt iter ifs scope cl ρ ρ' σ X Fin:=by
 refine h.mono λd τ o4'=>x2_5 o4' λds KS hz src k step fin=>(.mk ds KS hz src (λi ys τ1=>τ1=τ∧ys=(ds.take i).filterMap F) ⟨rfl,rfl⟩ (λi ys τ1 o5'=>x0_2 o5' λe _=>e▸k) ?_ ?_)
 ·rintro i ys τ1 d' hd ⟨rfl,rfl⟩ C
  refine qEa (step i d' hd C) ?_
  rintro y τ2 ⟨rfl,rfl⟩
  refine⟨rfl,?_⟩
  rw[List.take_add_one,hd]
  simp only[Option.toList_some,List.filterMap_append,List.filterMap_cons,List.filterMap_nil]
  cases F d' <;> simp[push?]
 ·rintro ys τ1 ⟨rfl,rfl⟩ _
  rw[List.take_length]
  exact fin
section
end
noncomputable def halfB(c:Int):Bool:=decide (55296≤c) && decide (c≤57343)
noncomputable def barB(c:Int):Bool:=decide (c < 32) || (decide (127≤c) && decide (c≤159)) || c==8232 || c==8233 || halfB c
noncomputable def qHs(x y:Str):Bool:=!(Builtin.Str.occurrences x y 0 x.length 1).isEmpty
noncomputable def qAx:List Nat→Nat→Nat→Option Nat
 | [],_,b=>some b
 |ch::r,at_,b=>if(⟨#[ch]⟩:Str)=="/" then(if((at_:Int)==(b:Int))then none else qAx r (at_+1) (at_+1))else if qHs "%*" ⟨#[ch]⟩ then none else if barB ch then none else qAx r (at_+1) b
theorem qHo{a b:Nat}:qAx [] a b=some b:=rfl
theorem qHp{ch at_ b:Nat}{r:List Nat}:qAx (ch::r) at_ b=if(⟨#[ch]⟩:Str)=="/" then(if((at_:Int)==(b:Int))then none else qAx r (at_+1) (at_+1))else if qHs "%*" ⟨#[ch]⟩ then none else if barB ch then none else qAx r (at_+1) b:=rfl
noncomputable def qB8(x:Str):Bool:=match qAx x.cps.toList 0 0 with
 |none=>false
 |some b=>!((b:Int)==x.length)
section
theorem qFr{i:Int}(h:Q (.bool (halfB i)) σ):FN w os (lv+1) 384 [.int i] σ Q X:=by
 refine qA5 ["code"] rfl (len1 λ_=>rfl) λA fr L=>?_
 walk_at"e"
 unfold halfB at h
 cases e:decide (55296≤i) <;> rw[e]at h
 ·exact h
 ·walk_at"e"
  exact h
theorem qGl{i:Int}(h:Q (.bool (barB i)) σ):FN w os (lv+2) 405 [.int i] σ Q X:=by
 refine qA5 ["code"] rfl (len1 λ_=>rfl) λA fr L=>?_
 walk_at"e"
 unfold barB at h
 cases e1:decide (i < 32) <;> rw[e1]at h
 ·walk_at"e"
  cases e2:decide (127≤i) <;> rw[e2]at h
  ·walk_at"e"
   cases e3:i==8232 <;> rw[e3]at h
   ·walk_at"e"
    cases e4:i==8233 <;> rw[e4]at h
    ·walk_at"e"
     exact qA1 (lv:=1) rfl (by walk_at"lv") (qFr (lv:=0) h)
    ·exact h
   ·exact h
  ·walk_at"e"
   cases e5:decide (i≤159) <;> rw[e5]at h
   ·walk_at"e"
    cases e3:i==8232 <;> rw[e3]at h
    ·walk_at"e"
     cases e4:i==8233 <;> rw[e4]at h
     ·walk_at"e"
      exact qA1 (lv:=1) rfl (by walk_at"lv") (qFr (lv:=0) h)
     ·exact h
    ·exact h
   ·exact h
 ·exact h
theorem qFw(hz:x.length≤16777216)(h:qB8 x=true→Q (.str x) σ)(hx:qB8 x=false→X 52 σ):FN w os (lv+4) 412 [.str x] σ Q X:=by
 refine qA5 ["text"] rfl (len1 λ_=>rfl) λA fr L=>?_
 walk_at"e"
 have hlen:x.cps.toList.length=x.length:=Array.length_toList
 refine qBA (J:=λd τ=>∃t u v,d= .raw (rngO 0 x.length t u v)∧τ=σ) rfl ?_ ?_
 ·walk_at"e"
  refine qE6 (by walk_at"sz") ?_
  walk_at"e"
  exact qBE λt u v=>(y32 t u v rfl rfl)
 rintro d τ ⟨t,u,v,rfl,rfl⟩
 refine(.mk _ (λ_=>True) (qB4 rfl (by decide) (by omega)) (λi ρ τ1=>τ1=τ∧ρ.lookup ("text":Str)=some (.str x)∧∃b:Nat,ρ.lookup ("begin":Str)=some (.int b)∧qAx (x.cps.toList.drop i) i b=qAx x.cps.toList 0 0) (y03 rfl rfl ⟨0,rfl,rfl⟩) (λ_ _ _ _=>trivial) ?_ ?_)
 ·rintro i ρ1 τ1 d hd' ⟨rfl,h1,b,h2,h3⟩
  have hi:i < x.length:=by
   exact qCR hd'
  obtain rfl:=qDF hd'
  obtain⟨ch,hch⟩:∃ch,x.cps.toList[i]? =some ch:=⟨_,List.getElem?_eq_getElem (by rw[hlen];exact hi)⟩
  have hdr:x.cps.toList.drop i=ch::x.cps.toList.drop (i+1):=by
   rw[List.drop_eq_getElem_cons (by rw[hlen];exact hi)]
   congr 1
   rw[List.getElem?_eq_getElem (by rw[hlen];exact hi)]at hch;injection hch
  rw[hdr,qHp]at h3
  walk_at"e"
  refine G_str (k:=i) rfl (by simpa using hch) (by omega) ?_
  walk_at"e"
  have key:qB8 x=(match qAx x.cps.toList 0 0 with|none=>false|some b=>!((b:Int)==x.length)):=rfl
  cases e1:((⟨#[ch]⟩:Str)=="/") <;> simp only[e1,Bool.false_eq_true,if_false,if_true]at h3 ⊢
  ·walk_at"e"
   refine O_ins ?_
   walk_at"e"
   cases e2:qHs "%*" ⟨#[ch]⟩ <;> simp only[e2,Bool.false_eq_true,if_false,if_true]at h3 <;> unfold qHs at e2 <;> rw[e2]
   ·walk_at"e"
    refine qA1 (lv:=2) rfl (by walk_at"lv") (qGl (lv:=0) ?_)
    walk_at"e"
    cases e3:barB ch <;> simp only[e3,Bool.false_eq_true,if_false,if_true]at h3
    ·walk_at"e"
     exact(y03 rfl (by walk_at"nm") ⟨b,by walk_at"nm",h3⟩)
    ·walk_at"e"
     walk_at"x"
     exact hx (by rw[key,←h3])
   ·walk_at"e"
    walk_at"x"
    exact hx (by rw[key,←h3])
  ·walk_at"e"
   cases e2:((i:Int)==(b:Int)) <;> simp only[e2,Bool.false_eq_true,if_false,if_true]at h3
   ·walk_at"e"
    exact(y03 rfl (by walk_at"nm") ⟨i+1,by walk_at"nm",h3⟩)
   ·walk_at"e"
    walk_at"x"
    exact hx (by rw[key,←h3])
 ·rintro ρ1 τ1 ⟨rfl,h1,b,h2,h3⟩
  have hil:(qCJ 0 (x.length:Int)).length=x.length:=qBX _
  rw[hil,List.drop_of_length_le (Nat.le_of_eq hlen),qHo]at h3
  have key:qB8 x= !((b:Int)==x.length):=by unfold qB8;rw[←h3]
  walk_at"e"
  refine qE6 (by walk_at"sz") ?_
  walk_at"e"
  cases e1:((b:Int)==(x.length:Int)) <;> rw[e1]at key
  ·walk_at"e"
   exact h key
  ·walk_at"e"
   walk_at"x"
   exact hx key
end
noncomputable def leB(x y:Str):Bool:=!decide (y.cps.toList < x.cps.toList)
noncomputable def upS(ch:Nat):Nat:=if leB "a" ⟨#[ch]⟩ && leB ⟨#[ch]⟩ "z" then ch - 32 else ch
noncomputable def qEH(x:Str):Str:=⟨(x.cps.toList.map upS).toArray⟩
theorem lt_one{a b:Nat}:(([a]:List Nat) < [b]) ↔ a < b:=by simp[List.cons_lt_cons_iff]
theorem upS_spec(ch:Nat)(h:leB "a" ⟨#[ch]⟩=true):97≤ch:=by
 unfold leB at h
 simp only[Bool.not_eq_true',decide_eq_false_iff_not]at h
 have e:(("a":Str).cps.toList)= [97]:=by decide+kernel
 rw[e]at h
 have:¬([ch]:List Nat) < [97]:=h
 rw[lt_one]at this
 omega
theorem qIM(ch:Nat)(h:leB ⟨#[ch]⟩ "z"=true):ch≤122:=by
 unfold leB at h
 simp only[Bool.not_eq_true',decide_eq_false_iff_not]at h
 have e:(("z":Str).cps.toList)= [122]:=by decide+kernel
 rw[e]at h
 have:¬([122]:List Nat) < [ch]:=h
 rw[lt_one]at this
 omega
noncomputable def upD(d:D):Option D:=if e:d.ctorIdx=3 then D.str.elim (motive_1:=λ_=>Option D) d e λx=>some (.str ⟨#[upS (x.cps.getD 0 0)]⟩)else none
section
theorem f_upper(hz:x.length≤16777216)(h:Q (.str (qEH x)) σ):FN w os (lv+1) 377 [.str x] σ Q X:=by
 refine qA5 ["text"] rfl (len1 λ_=>rfl) λA fr L=>?_
 walk_at"e"
 refine qAO (cl:=[]) (ρ':=[]) ⟨rfl,by kernel_rfl!,rfl,qAA,trivial⟩ ?_
 refine qJn upD ?_
 walk_at"e"
 refine(y25 _ (λ_=>True) ?_ (qH2 rfl) trivial ?_ ?_)
 ·unfold signs sizeLine;rw[List.length_map,Array.length_toList];exact hz
 ·intro i d' hd C
  unfold signs at hd
  rw[List.getElem?_map]at hd
  obtain⟨ch,hch,rfl⟩:=Option.map_eq_some_iff.mp hd
  refine .mk ?_
  walk_at"e"
  refine O_les ?_
  walk_at"e"
  have e1:(!decide ((⟨#[ch]⟩:Str).cps.toList < ("a":Str).cps.toList))=leB "a" ⟨#[ch]⟩:=rfl
  have e2:(!decide (("z":Str).cps.toList < (⟨#[ch]⟩:Str).cps.toList))=leB ⟨#[ch]⟩ "z":=rfl
  rw[e1]
  cases q1:leB "a" ⟨#[ch]⟩
  ·walk_at"e"
   refine⟨?_,rfl⟩
   show _=some (D.str ⟨#[if leB "a" ⟨#[ch]⟩ && leB ⟨#[ch]⟩ "z" then ch - 32 else ch]⟩)
   rw[q1];rfl
  ·walk_at"e"
   refine O_les ?_
   walk_at"e"
   rw[e2]
   cases q2:leB ⟨#[ch]⟩ "z"
   ·walk_at"e"
    refine⟨?_,rfl⟩
    show _=some (D.str ⟨#[if leB "a" ⟨#[ch]⟩ && leB ⟨#[ch]⟩ "z" then ch - 32 else ch]⟩)
    rw[q1,q2];rfl
   ·walk_at"e"
    have:=upS_spec ch q1
    have:=qIM ch q2
    refine C_chr (by omega) ?_
    refine⟨?_,rfl⟩
    show _=some (D.str ⟨#[if leB "a" ⟨#[ch]⟩ && leB ⟨#[ch]⟩ "z" then ch - 32 else ch]⟩)
    rw[q1,q2,show((ch:Int) - 32).toNat=ch - 32 from Int.toNat_sub ch 32]
    rfl
 ·walk_at"e"
  have e:(List.filterMap upD (signs x))=((qEH x).cps.toList.map λch=>(⟨#[ch]⟩:Str)).map .str:=by
   unfold signs qEH
   simp only[List.filterMap_map,List.map_map]
   rw[←List.filterMap_eq_map]
   rfl
  rw[e]
  refine C_join ?_ ?_
  ·rw[qFQ]
   unfold qEH
   simp only[List.length_map]
   have e0:("":Str).length=0:=rfl
   have:x.cps.toList.length=x.length:=Array.length_toList
   rw[e0];simp only[this];omega
  ·rw[qEK];exact h
end
noncomputable def qCS(x:Str):Str × Str:=if decide (Txt.find x "/" < 0)then(x,"")else(Txt.slice x none (some (Txt.find x "/")),Txt.slice x (some (Txt.find x "/")) none)
noncomputable def qA4(x:Str):Str:=if qEH (qCS x).1=="INBOX" then "INBOX"++(qCS x).2 else x
theorem e_len(x y:Str):(x++y).length=x.length+y.length:=by
 show(x.cps++y.cps).size=_
 rw[Array.size_append];rfl
theorem qFd:("INBOX":Str).length=5:=by decide+kernel
theorem qFk(x:Str):(qCS x).1.length≤x.length∧(qCS x).2.length≤x.length:=by
 unfold qCS
 split
 ·exact⟨Nat.le_refl _,Nat.zero_le _⟩
 ·exact⟨Txt.slice_le x _ _,Txt.slice_le x _ _⟩
theorem qCQ(x:Str):(qA4 x).length≤x.length+5:=by
 unfold qA4
 split
 ·rw[e_len,qFd];have:=(qFk x).2;omega
 ·omega
section
theorem f_first(hz:x.length≤16777216)(h:Q (.tup [.str (qCS x).1,.str (qCS x).2]) σ):FN w os (lv+1) 391 [.str x] σ Q X:=by
 refine qA5 ["text"] rfl (len1 λ_=>rfl) λA fr L=>?_
 walk_at"e"
 unfold qCS at h
 cases e:decide (Txt.find x "/" < 0) <;> rw[e]at h
 ·walk_at"e"
  refine qDK ?_ hz
  walk_at"e"
  refine qDK ?_ hz
  walk_at"e"
  exact h
 ·walk_at"e"
  exact h
theorem qEz(hz:x.length≤1000000)(h:Q (.str (qA4 x)) σ):FN w os (lv+2) 398 [.str x] σ Q X:=by
 refine qA5 ["text"] rfl (len1 λ_=>rfl) λA fr L=>?_
 walk_at"e"
 refine qA1 (lv:=1) rfl (by walk_at"lv") (f_first (lv:=0) (by omega) ?_)
 have hl:=qFk x
 unfold qA4 at h
 walk_at"e"
 refine qA1 (lv:=1) rfl (by walk_at"lv") (f_upper (lv:=0) (by omega) ?_)
 walk_at"e"
 cases e:qEH (qCS x).1=="INBOX" <;> simp only[e,Bool.false_eq_true,if_false,if_true]at h
 ·walk_at"e"
  exact h
 ·walk_at"e"
  exact qHU (by rw[qFd];unfold sizeLine;omega) h
theorem f_below{y:Str}(hz:y.length≤1000000)(h:Q (.bool (Txt.startswith x (y++"/"))) σ):FN w os (lv+1) 419 [.str x,.str y] σ Q X:=by
 refine qA5 ["name","parent"] rfl (len2 λ_ _=>rfl) λA fr L=>?_
 walk_at"e"
 refine qHU (by show y.length+1≤sizeLine;unfold sizeLine;omega) ?_
 walk_at"e"
 exact h
theorem qBt(hz:x.length≤1000000)(h:qB8 (qA4 x)=true→Q (.str (qA4 x)) σ)(hx:qB8 (qA4 x)=false→X 76 σ):FN w os (lv+5) 504 [.str x] σ Q X:=by
 refine qA5 ["name"] rfl (len1 λ_=>rfl) λA fr L=>?_
 walk_at"e"
 refine qA1 (lv:=2) rfl (by walk_at"lv") (qEz (lv:=0) hz ?_)
 have:=qCQ x
 walk_at"e"
 refine ST_TryAs (T:=52) rfl (by walk_at"lv") (by decide) (by decide) rfl rfl rfl rfl rfl ?_
 walk_at"e"
 refine qA1 (lv:=4) rfl (by walk_at"lv") (qFw (lv:=0) (by omega) (λk=>?_) λk=>⟨rfl,λ_=>hx k⟩)
 walk_at"e"
 exact h k
end
noncomputable def sysF:List Str:=["\\Seen","\\Answered","\\Flagged","\\Deleted","\\Draft"]
noncomputable def flagsL:List Str:=["\\Seen","\\deleted","key","\\FLAGGED","Key","no flag","\\Deleted","\\Flagged"]
noncomputable def qHl(ch:Nat):Bool:=decide (32 < (ch:Int)) && decide ((ch:Int) < 127) && !qHs "(){ %*\"\\]" ⟨#[ch]⟩
noncomputable def isKw(x:Str):Bool:=decide (1≤(x.length:Int)) && decide ((x.length:Int)≤60) && x.cps.toList.all qHl
noncomputable def qCj(x:Str):Option Str:=match sysF.find? (λn=>Txt.lower x==Txt.lower n) with
 |some n=>some n
 |none=>if isKw x then some x else none
theorem qIq:(flagsL++sysF).all (λx=>decide (x.length≤60) && !Builtin.Str.tooLong (Txt.lower x).length)=true:=by decide+kernel
theorem qHH(h:x∈flagsL++sysF):x.length≤60∧Builtin.Str.tooLong (Txt.lower x).length=false:=by
 have:=List.all_eq_true.mp qIq x h
 simpa using this
noncomputable def flagsO:List (Option Str):=[some "\\Seen",some "\\Deleted",some "key",some "\\Flagged",some "Key",none,some "\\Deleted",some "\\Flagged"]
theorem qFj:flagsL.map qCj=flagsO:=by decide+kernel
theorem qIS:Txt.split "\\Seen \\Answered \\Flagged \\Deleted \\Draft" " "=sysF:=by decide+kernel
section
theorem qE9(h:Q (.lst (sysF.map .str)) σ):FN w os (lv+1) 85 [] σ Q X:=by
 refine qA5 [] rfl (len0 rfl) λA fr L=>?_
 walk_at"e"
 exact qH3 (by decide+kernel) (by decide+kernel) (by decide+kernel) (by rw[qIS];exact h)
theorem qFq(hz:x.length≤1000000)(h:Q (.bool (isKw x)) σ):FN w os (lv+1) 92 [.str x] σ Q X:=by
 refine qA5 ["text"] rfl (len1 λ_=>rfl) λA fr L=>?_
 have hlen:x.cps.toList.length=x.length:=Array.length_toList
 walk_at"e"
 refine qE6 (by walk_at"sz") ?_
 walk_at"e"
 unfold isKw at h
 cases e1:decide (1≤(x.length:Int)) <;> rw[e1]at h
 ·walk_at"e"
  exact h
 ·walk_at"e"
  cases e2:decide ((x.length:Int)≤60) <;> rw[e2]at h
  ·walk_at"e"
   exact h
  ·walk_at"e"
   refine qBA (J:=λd τ=>d= .str x∧τ=σ) rfl (by walk_at"e";exact⟨rfl,rfl⟩) ?_
   rintro d τ ⟨rfl,rfl⟩
   refine(.mk _ (λ_=>True) (qH2 rfl) (λi ρ τ1=>τ1=τ∧(x.cps.toList.take i).all qHl=true) ⟨rfl,rfl⟩ (λ_ _ _ _=>trivial) ?_ ?_)
   ·rintro i ρ1 τ1 d hd ⟨rfl,h1⟩
    unfold signs at hd
    rw[List.getElem?_map]at hd
    obtain⟨ch,hch,rfl⟩:=Option.map_eq_some_iff.mp hd
    have ht:x.cps.toList.take (i+1)=x.cps.toList.take i++ [ch]:=by rw[List.take_add_one,hch];rfl
    have hm:ch∈x.cps.toList:=List.mem_of_getElem? hch
    have no:qHl ch=false→x.cps.toList.all qHl=false:=λk=>by
     rw[List.all_eq_false];exact(y12 ch hm (by rw[k];decide))
    have ok:qHl ch=(decide (32 < (ch:Int)) && decide ((ch:Int) < 127) && !qHs "(){ %*\"\\]" ⟨#[ch]⟩):=rfl
    walk_at"e"
    cases q1:decide (32 < (ch:Int)) <;> rw[q1]at ok
    ·walk_at"e"
     rw[no ok]at h;exact h
    ·walk_at"e"
     cases q2:decide ((ch:Int) < 127) <;> rw[q2]at ok
     ·walk_at"e"
      rw[no ok]at h;exact h
     ·walk_at"e"
      refine O_ins ?_
      walk_at"e"
      change qHl ch= !(!(Builtin.Str.occurrences "(){ %*\"\\]" ⟨#[ch]⟩ 0 ("(){ %*\"\\]":Str).length 1).isEmpty)at ok
      cases q3:(!(Builtin.Str.occurrences "(){ %*\"\\]" ⟨#[ch]⟩ 0 ("(){ %*\"\\]":Str).length 1).isEmpty) <;> rw[q3]at ok
      ·walk_at"e"
       refine⟨rfl,?_⟩
       rw[ht,List.all_append,h1]
       simp only[List.all_cons,ok];rfl
      ·walk_at"e"
       rw[no ok]at h;exact h
   ·rintro ρ1 τ1 ⟨rfl,h1⟩
    unfold signs at h1
    rw[List.length_map,List.take_length]at h1
    walk_at"e"
    rw[h1]at h
    exact h
theorem qGm(hx:x∈flagsL)(h:∀y,qCj x=some y→Q (.str y) σ)(hn:qCj x=none→X 76 σ):FN w os (lv+4) 99 [.str x] σ Q X:=by
 refine qA5 ["text"] rfl (len1 λ_=>rfl) λA fr L=>?_
 obtain⟨hz,hlo⟩:=qHH (List.mem_append_left _ hx)
 walk_at"e"
 refine qBA (J:=λd τ=>d= .lst (sysF.map .str)∧τ=σ) rfl ?_ ?_
 ·walk_at"e"
  refine qA1 (lv:=1) rfl (by walk_at"lv") (qE9 (lv:=0) ⟨rfl,rfl⟩)
 rintro d τ ⟨rfl,rfl⟩
 refine(.mk _ (λ_=>True) (qAN rfl) (λi ρ τ1=>τ1=τ∧ρ.lookup ("text":Str)=some (.str x)∧(sysF.take i).find? (λn=>Txt.lower x==Txt.lower n)=none) (y03 rfl rfl rfl) (λ_ _ _ _=>trivial) ?_ ?_)
 ·rintro i ρ1 τ1 d hd ⟨rfl,h1,h2⟩
  rw[List.getElem?_map]at hd
  obtain⟨y,hy,rfl⟩:=Option.map_eq_some_iff.mp hd
  obtain⟨hz2,hlo2⟩:=qHH (List.mem_append_right _ (List.mem_of_getElem? hy))
  walk_at"e"
  refine qJk (by walk_at"sz") hlo ?_
  walk_at"e"
  refine qJk (by walk_at"sz") hlo2 ?_
  walk_at"e"
  cases q:Txt.lower x==Txt.lower y
  ·walk_at"e"
   refine(y03 rfl (by walk_at"nm") ?_)
   rw[List.take_add_one,hy,List.find?_append,h2]
   simp only[Option.toList_some,List.find?_cons,q];rfl
  ·walk_at"e"
   refine h y ?_
   unfold qCj
   rw[show sysF=(sysF.take i++ [y])++sysF.drop (i+1) by rw[←(show sysF.take (i+1)=sysF.take i++ [y] by rw[List.take_add_one,hy];rfl),List.take_append_drop],List.find?_append,List.find?_append,h2]
   simp only[List.find?_cons,q];rfl
 ·rintro ρ1 τ1 ⟨rfl,h1,h2⟩
  rw[List.length_map,List.take_length]at h2
  have key:qCj x=if isKw x then some x else none:=by unfold qCj;rw[h2]
  walk_at"e"
  refine qA1 (lv:=1) rfl (by walk_at"lv") (qFq (lv:=0) (by omega) ?_)
  walk_at"e"
  cases q:isKw x <;> simp only[q,Bool.false_eq_true,if_false,if_true]at key
  ·walk_at"e"
   walk_at"x"
   exact hn key
  ·walk_at"e"
   exact h x key
end
noncomputable def goodF:List Str:=["\\Seen","\\Deleted","key","\\Flagged","Key"]
noncomputable def qAs:List Str→List Str→Option (List Str)
 |acc,[]=>some acc
 |acc,x::r=>match qCj x with
  |none=>none
  |some n=>qAs (if !decide (n∈acc)then acc++ [n]else acc) r
theorem qHu{acc:List Str}:qAs acc []=some acc:=rfl
theorem qCk{acc:List Str}{r:List Str}:qAs acc (x::r)=match qCj x with
  |none=>none
  |some n=>qAs (if !decide (n∈acc)then acc++ [n]else acc) r:=rfl
noncomputable def qB0(xs:List Str):Option (List Str):=(qAs [] xs).map qCF
theorem qHt{y:Str}(hx:x∈flagsL)(e:qCj x=some y):y∈goodF:=by
 have:flagsO.all (λo=>match o with|some y=>decide (y∈goodF)|none=>true)=true:=by decide+kernel
 rw[←qFj]at this
 have:=List.all_eq_true.mp this _ (List.mem_map_of_mem hx)
 rw[e]at this
 simpa using this
theorem qGZ{α β:Type}{f:α→β}{x:α}{l:List α}(h:x∈l):(x,f x)∈l.zip (l.map f):=by
 induction l with
 |nil=>cases h
 |cons a r ih=>exact(List.mem_cons.mp h).elim (λe=>e▸List.mem_cons_self) λh=>List.mem_cons_of_mem _ (ih h)
theorem qCe(h:x∈goodF):x∈flagsL∧qCj x=some x:=by
 have:goodF.all (λy=>decide (y∈flagsL))=true:=by decide+kernel
 refine⟨by simpa using List.all_eq_true.mp this x h,?_⟩
 have:(flagsL.zip flagsO).all (λp=>!decide (p.1∈goodF) || p.2==some p.1)=true:=by decide+kernel
 rw[←qFj]at this
 have hm:x∈flagsL:=by
  have:goodF.all (λy=>decide (y∈flagsL))=true:=by decide+kernel
  simpa using List.all_eq_true.mp this x h
 have hz:(x,qCj x)∈flagsL.zip (flagsL.map qCj):=qGZ hm
 have:=List.all_eq_true.mp this _ hz
 simpa [h] using this
theorem nodup_le(l g:List Str)(hn:l.Nodup)(hs:∀x∈l,x∈g):l.length≤g.length:=by
 induction l generalizing g with
 |nil=>exact Nat.zero_le _
 |cons x l ih=>
  have h1:=hs x List.mem_cons_self
  rw[List.nodup_cons]at hn
  have this_1:=ih (g.erase x) hn.2 λy hy=>(List.mem_erase_of_ne (λe:y=x=>hn.1 (e▸hy))).mpr (hs y (List.mem_cons_of_mem _ hy))
  rw[List.length_erase_of_mem h1]at this_1
  have:0 < g.length:=List.length_pos_of_mem h1
  exact Nat.le_trans (Nat.succ_le_succ this_1) (Nat.le_of_eq (Nat.sub_add_cancel this))
theorem qGg{xs acc ys:List Str}(hx:∀x∈xs,x∈flagsL)(ha:∀x∈acc,x∈goodF)(hn:acc.Nodup)(e:qAs acc xs=some ys):(∀y∈ys,y∈goodF)∧ys.Nodup:=by
 induction xs generalizing acc with
 |nil=>cases Option.some.inj e;exact⟨ha,hn⟩
 |cons x r ih=>
  rw[qCk]at e
  cases q:qCj x with
  |none=>rw[q]at e;cases e
  |some n=>
   rw[q]at e
   have hg:=qHt (hx x List.mem_cons_self) q
   by_cases k:n∈acc
   ·simp only[k,decide_true,Bool.not_true,Bool.false_eq_true,if_false]at e
    exact ih (λy hy=>hx y (List.mem_cons_of_mem _ hy)) ha hn e
   ·simp only[k,decide_false,Bool.not_false,if_true]at e
    refine ih (λy hy=>hx y (List.mem_cons_of_mem _ hy)) (λy hy=>?_) ?_ e
    ·rcases List.mem_append.mp hy with h|h
     ·exact ha y h
     ·rw[List.mem_singleton.mp h];exact hg
    ·rw[List.nodup_append]
     exact(y03 hn (by simp) (λa h b hb=>by rw[List.mem_singleton.mp hb];exact λe=>k (e▸h)))
def FlagsOk(fs:List Str):Prop:=(∀x∈fs,x∈goodF)∧fs.length≤5
theorem qAg{xs ys:List Str}(hx:∀x∈xs,x∈flagsL)(e:qB0 xs=some ys):FlagsOk ys:=by
 unfold qB0 at e
 obtain⟨zs,h1,rfl⟩:=Option.map_eq_some_iff.mp e
 obtain⟨h2,h3⟩:=qGg hx (by intro _ h;cases h) List.nodup_nil h1
 have hp:(qCF zs).Perm zs:=List.mergeSort_perm _ _
 refine⟨λx h=>h2 x (hp.mem_iff.mp h),?_⟩
 rw[hp.length_eq]
 exact nodup_le zs goodF h3 h2
theorem FlagsOk.flags(h:FlagsOk fs):∀x∈fs,x∈flagsL:=λx k=>(qCe (h.1 x k)).1
theorem qEu{xs acc:List Str}(h:∀x∈xs,x∈goodF):∃ys,qAs acc xs=some ys:=by
 induction xs generalizing acc with
 |nil=>exact⟨acc,rfl⟩
 |cons x r ih=>
  rw[qCk,(qCe (h x List.mem_cons_self)).2]
  exact ih λy hy=>h y (List.mem_cons_of_mem _ hy)
theorem qAv{xs:List Str}(h:∀x∈xs,x∈goodF):∃ys,qB0 xs=some ys:=by
 obtain⟨ys,e⟩:=qEu (acc:=[]) h
 exact⟨qCF ys,by unfold qB0;rw[e];rfl⟩
section
theorem qB2{xs:List Str}(hx:∀x∈xs,x∈flagsL)(hz:xs.length < 64)(h:∀ys,qB0 xs=some ys→Q (.tup (ys.map .str)) σ)(hn:qB0 xs=none→X 76 σ):FN w os (lv+5) 106 [.tup (xs.map .str)] σ Q X:=by
 refine qCt ?_
 refine qA5 ["flags"] rfl (len1 λ_=>rfl) λA fr L=>?_
 walk_at"e1"
 walk_at"e1"
 refine qBP ?_
 walk_at"e"
 intro a na
 walk_at"e"
 refine qBA (J:=λd τ=>d= .tup (xs.map .str)∧τ=σ.set a (.list [])) rfl (by walk_at"e";exact⟨rfl,rfl⟩) ?_
 rintro d τ ⟨rfl,rfl⟩
 refine(.mk _ (λ_=>True) (qCM rfl) (λi ρ τ1=>ρ.lookup ("found":Str)=some (.obj a)∧∃acc,τ1=σ.set a (.list (acc.map .str))∧qAs acc (xs.drop i)=qAs [] xs∧acc.length≤i) ⟨rfl,[],rfl,rfl,Nat.le_refl _⟩ (λ_ _ _ _=>trivial) ?_ ?_)
 ·rintro i ρ1 τ1 d hd ⟨h1,acc,rfl,h2,h3⟩
  rw[List.getElem?_map]at hd
  obtain⟨y,hy,rfl⟩:=Option.map_eq_some_iff.mp hd
  have hi:=(List.getElem?_eq_some_iff.mp hy).1
  have hdr:xs.drop i=y::xs.drop (i+1):=by
   rw[List.drop_eq_getElem_cons hi]
   congr 1
   exact(List.getElem?_eq_some_iff.mp hy).2
  rw[hdr,qCk]at h2
  walk_at"e"
  refine qA1 (lv:=4) rfl (by walk_at"lv") (qGm (lv:=0) (hx y (List.mem_of_getElem? hy)) (λz hz'=>?_) λk=>(y12 σ (Sg.sub_set na) (hn ?_)))
  ·rw[hz']at h2
   walk_at"e"
   refine O_ninO (Sg.set_same _ _ _) ?_
   walk_at"e"
   have h2:qAs (if(!decide (z∈acc))=true then acc++ [z]else acc) (xs.drop (i+1))=qAs [] xs:=h2
   cases q:(!decide (z∈acc)) <;> simp only[q,Bool.false_eq_true,if_false,if_true]at h2
   ·walk_at"e"
    exact⟨by walk_at"nm",acc,rfl,h2,by omega⟩
   ·walk_at"e"
    refine(.mk _ _ (qB5 (Sg.set_same _ _ _)) qAD ?_)
    walk_at"e"
    refine qBQ (Sg.set_same _ _ _) (by walk_at"sm") ?_
    rw[Sg.set_set]
    walk_at"e"
    exact⟨by walk_at"nm",acc++ [z],by rw[List.map_append];rfl,h2,by rw[List.length_append];exact Nat.succ_le_succ h3⟩
  ·unfold qB0;rw[←h2,k];rfl
 ·rintro ρ1 τ1 ⟨h1,acc,rfl,h2,h3⟩
  rw[List.length_map]at h2 h3
  rw[List.drop_length,qHu]at h2
  walk_at"e"
  refine C_sortSL (Sg.set_same _ _ _) (by omega) ?_
  walk_at"e"
  refine qBy (by rw[List.length_map];unfold sizeLine qCF;rw[List.length_mergeSort];omega) ?_
  exact(y12 σ (Sg.sub_set na) (h _ (by unfold qB0;rw[←h2];rfl)))
end
structure LetT where
 uid:Int
 octets:Array UInt8
 flags:List Str
 instant:Int
 modseq:Int
noncomputable def LetT.toD(l:LetT):D:=.inst 137 [("uid",.int l.uid),("octets",.bytes l.octets),("flags",.tup (l.flags.map .str)),("instant",.int l.instant),("modseq",.int l.modseq)]
structure BoxT where
 name:Str
 validity:Int
 next_uid:Int
 top:Int
 floor:Int
 letters:List LetT
 gone:List (Int × Int)
noncomputable def qBI(p:Int × Int):D:=.tup [.int p.1,.int p.2]
noncomputable def BoxT.mo(b:BoxT)(al:Addr):MO:=.inst 175 [("name",.str b.name),("validity",.int b.validity),("next_uid",.int b.next_uid),("top",.int b.top),("floor",.int b.floor),("letters",.obj al),("gone",.lst (b.gone.map qBI))]
structure Slot where
 ab:Addr
 al:Addr
 b:BoxT
def Slot.ok(σ:Sg)(p:Slot):Prop:=σ p.ab=some (p.b.mo p.al)∧σ p.al=some (.list (p.b.letters.map LetT.toD))
structure Fam(F σ:Sg)(P:List Slot):Prop where
 sub:F.Sub σ
 ok:∀p∈P,p.ok σ
 nb:(P.map Slot.ab).Nodup
 nl:(P.map Slot.al).Nodup
 fr:∀p∈P,F p.ab=none∧F p.al=none
def BoxAt(F σ:Sg)(ab:Addr)(b:BoxT):Prop:=∃al,Fam F σ [⟨ab,al,b⟩]
theorem Sg.Sub.none(h:F.Sub σ){x:Addr}(e:σ x=none):F x=none:=by
 cases q:F x with
 |none=>rfl
 |some o=>rw[h x o q]at e;cases e
theorem Fam.weak{G:Sg}{P:List Slot}(h:Fam F σ P)(k:G.Sub F):Fam G σ P:=⟨k.trans h.sub,h.ok,h.nb,h.nl,λp m=>⟨k.none (h.fr p m).1,k.none (h.fr p m).2⟩⟩
theorem Slot.ok.ne{p q:Slot}(h:p.ok σ)(k:q.ok σ):p.ab≠q.al:=λe=>by
 have:=h.1;rw[e,k.2]at this;unfold BoxT.mo at this;cases this
theorem Fam.perm{P P':List Slot}(h:Fam F σ P)(k:P.Perm P'):Fam F σ P':=
 ⟨h.sub,λp m=>h.ok p (k.mem_iff.mpr m),(k.map _).nodup_iff.mp h.nb,(k.map _).nodup_iff.mp h.nl,λp m=>h.fr p (k.mem_iff.mpr m)⟩
theorem Fam.sublist{P P':List Slot}(h:Fam F σ P)(k:P'.Sublist P):Fam F σ P':=
 ⟨h.sub,λp m=>h.ok p (k.subset m),h.nb.sublist (k.map _),h.nl.sublist (k.map _),λp m=>h.fr p (k.subset m)⟩
noncomputable def qBl(σ:Sg)(P:List Slot):Sg:=λx=>if P.any (λp=>p.ab==x || p.al==x)then none else σ x
theorem qAr{P:List Slot}{x:Addr}(h:∀p∈P,x≠p.ab∧x≠p.al):qBl σ P x=σ x:=by
 unfold qBl
 rw[if_neg]
 intro e
 obtain⟨p,m,q⟩:=List.any_eq_true.mp e
 have:=h p m
 simp only[Bool.or_eq_true,beq_iff_eq]at q
 rcases q with q|q
 ·exact this.1 q.symm
 ·exact this.2 q.symm
theorem qEt{P:List Slot}{p:Slot}(h:p∈P):qBl σ P p.ab=none∧qBl σ P p.al=none:=by
 unfold qBl
 constructor <;> (rw[if_pos];exact List.any_eq_true.mpr (y12 p h (by simp)))
theorem qDZ(σ:Sg)(P:List Slot):(qBl σ P).Sub σ:=λx o e=>by
 unfold qBl at e
 split at e
 ·cases e
 ·exact e
theorem Fam.split{P1 P2:List Slot}(h:Fam F σ (P1++P2)):Fam (qBl σ P1) σ P1∧Fam F (qBl σ P1) P2:=by
 have nb:=h.nb
 have nl:=h.nl
 rw[List.map_append,List.nodup_append]at nb nl
 refine⟨⟨qDZ _ _,λp m=>h.ok p (List.mem_append_left _ m),nb.1,nl.1,λp m=>qEt m⟩,λx o e=>?_,λp m=>?_,nb.2.1,nl.2.1,λp m=>h.fr p (List.mem_append_right _ m)⟩
 ·rw[qAr]
  ·exact h.sub x o e
  ·intro p m
   have:=h.fr p (List.mem_append_left _ m)
   constructor
   ·rintro rfl;rw[this.1]at e;cases e
   ·rintro rfl;rw[this.2]at e;cases e
 ·have hp:=h.ok p (List.mem_append_right _ m)
  constructor
  ·rw[qAr]
   ·exact hp.1
   ·intro q mq
    exact⟨λe=>nb.2.2 _ (List.mem_map_of_mem mq) _ (List.mem_map_of_mem m) e.symm,hp.ne (h.ok q (List.mem_append_left _ mq))⟩
  ·rw[qAr]
   ·exact hp.2
   ·intro q mq
    exact⟨λe=>(h.ok q (List.mem_append_left _ mq)).ne hp e.symm,λe=>nl.2.2 _ (List.mem_map_of_mem mq) _ (List.mem_map_of_mem m) e.symm⟩
theorem Fam.join{G:Sg}{P1 P2:List Slot}(h:Fam G σ P1)(k:Fam F G P2):Fam F σ (P1++P2):=by
 refine⟨k.sub.trans h.sub,λp m=>?_,?_,?_,λp m=>?_⟩
 ·rcases List.mem_append.mp m with m|m
  ·exact h.ok p m
  ·have:=k.ok p m
   exact⟨h.sub _ _ this.1,h.sub _ _ this.2⟩
 ·rw[List.map_append,List.nodup_append]
  refine(y03 h.nb k.nb (λx hx y hy e=>?_))
  obtain⟨p,mp,rfl⟩:=List.mem_map.mp hx
  obtain⟨q,mq,rfl⟩:=List.mem_map.mp hy
  have:=(k.ok q mq).1
  rw[←e,(h.fr p mp).1]at this;cases this
 ·rw[List.map_append,List.nodup_append]
  refine(y03 h.nl k.nl (λx hx y hy e=>?_))
  obtain⟨p,mp,rfl⟩:=List.mem_map.mp hx
  obtain⟨q,mq,rfl⟩:=List.mem_map.mp hy
  have:=(k.ok q mq).2
  rw[←e,(h.fr p mp).2]at this;cases this
 ·rcases List.mem_append.mp m with m|m
  ·have:=h.fr p m
   exact⟨k.sub.none this.1,k.sub.none this.2⟩
  ·exact k.fr p m
theorem Sg.Sub.set(h:F.Sub σ)(x:Addr)(o:MO):(F.set x o).Sub (σ.set x o):=λy p e=>by
 unfold Sg.set at *
 split at e
 ·rename_i q;rw[if_pos q];exact e
 ·rename_i q;rw[if_neg q];exact h y p e
theorem Sg.Sub.setN(h:F.Sub σ){x:Addr}(n:F x=Option.none)(o:MO):F.Sub (σ.set x o):=λy p e=>by
 unfold Sg.set
 split
 ·rename_i q;rw[q,n]at e;cases e
 ·exact h y p e
theorem Fam.set{P:List Slot}(h:Fam F σ P){x:Addr}{o:MO}(e:F x=some o)(o':MO):Fam (F.set x o') (σ.set x o') P:=by
 have ne:∀p∈P,p.ab≠x∧p.al≠x:=λp m=>by
  have:=h.fr p m
  constructor
  ·intro q;rw[q,e]at this;cases this.1
  ·intro q;rw[q,e]at this;cases this.2
 refine⟨h.sub.set x o',λp m=>?_,h.nb,h.nl,λp m=>?_⟩
 ·have:=h.ok p m
  exact⟨by rw[Sg.set_ne _ _ (ne p m).1];exact this.1,by rw[Sg.set_ne _ _ (ne p m).2];exact this.2⟩
 ·rw[Sg.set_ne _ _ (ne p m).1,Sg.set_ne _ _ (ne p m).2];exact h.fr p m
theorem Fam.new{P:List Slot}(h:Fam F σ P){x:Addr}(e:σ x=Option.none)(o':MO):Fam (F.set x o') (σ.set x o') P:=by
 have ne:∀p∈P,p.ab≠x∧p.al≠x:=λp m=>by
  have:=h.ok p m
  constructor
  ·intro q;rw[←q,this.1]at e;cases e
  ·intro q;rw[←q,this.2]at e;cases e
 refine⟨h.sub.set x o',λp m=>?_,h.nb,h.nl,λp m=>?_⟩
 ·have:=h.ok p m
  exact⟨by rw[Sg.set_ne _ _ (ne p m).1];exact this.1,by rw[Sg.set_ne _ _ (ne p m).2];exact this.2⟩
 ·rw[Sg.set_ne _ _ (ne p m).1,Sg.set_ne _ _ (ne p m).2];exact h.fr p m
theorem BoxAt.mk'{al:Addr}{b:BoxT}(h1:σ ab=some (b.mo al))(h2:σ al=some (.list (b.letters.map LetT.toD)))(s:F.Sub σ)(f1:F ab=none)(f2:F al=none):BoxAt F σ ab b:=
 ⟨al,s,by intro p m;rw[List.mem_singleton.mp m];exact⟨h1,h2⟩,by simp,by simp,by intro p m;rw[List.mem_singleton.mp m];exact⟨f1,f2⟩⟩
theorem BoxAt.get{b:BoxT}(h:BoxAt F σ ab b):∃al,σ ab=some (b.mo al)∧σ al=some (.list (b.letters.map LetT.toD))∧F.Sub σ∧F ab=none∧F al=none∧ab≠al:=by
 obtain⟨al,f⟩:=h
 have o:=f.ok _ (List.mem_singleton.mpr rfl)
 have r:=f.fr _ (List.mem_singleton.mpr rfl)
 exact(y16 al o.1 o.2 f.sub r.1 r.2 (o.ne o))
theorem BoxAt.flds{al:Addr}{b b':BoxT}(h2:σ al=some (.list (b.letters.map LetT.toD)))(s:F.Sub σ)(f1:F ab=none)(f2:F al=none)(ne:ab≠al)(e:b'.letters=b.letters):BoxAt F (σ.set ab (b'.mo al)) ab b':=
 .mk' (Sg.set_same _ _ _) (by rw[Sg.set_ne _ _ (Ne.symm ne),e];exact h2) (s.setN f1 _) f1 f2
theorem Sg.set_comm(σ:Sg){b:Addr}(h:a≠b)(o p:MO):(σ.set a o).set b p=(σ.set b p).set a o:=funext λx=>by
 unfold Sg.set
 by_cases q:x=b
 ·rw[if_pos q,if_neg (λe:x=a=>h (e.symm.trans q)),if_pos q]
 ·rw[if_neg q]
  by_cases r:x=a
  ·rw[if_pos r,if_pos r]
  ·rw[if_neg r,if_neg r,if_neg q]
theorem BoxAt.both{al:Addr}{b':BoxT}(s:F.Sub σ)(f1:F ab=none)(f2:F al=none)(ne:ab≠al):BoxAt F ((σ.set ab (b'.mo al)).set al (.list (b'.letters.map LetT.toD))) ab b':=
 .mk' (by rw[Sg.set_ne _ _ ne,Sg.set_same]) (Sg.set_same _ _ _) ((s.setN f1 _).setN f2 _) f1 f2
section
theorem qF1{l:LetT}(hz:l.flags.length≤sizeLine)(h:Q .none (σ.set a (.inst 137 [("uid",.int l.uid),("octets",.bytes l.octets),("flags",.tup (l.flags.map .str)),("instant",.int l.instant),("modseq",.int l.modseq)]))):
  FN w os (lv+1) 120 [.obj a,.int l.uid,.bytes l.octets,.tup (l.flags.map .str),.int l.instant,.int l.modseq] (σ.set a (.inst 137 [])) Q X:=by
 refine qA5 ["self","uid","octets","flags","instant","modseq"] rfl (len6 λ_ _ _ _ _ _=>rfl) λA fr L=>?_
 walk_at"e"
 walk_at"as"
 walk_at"as"
 refine C_tupT ?_
 walk_at"e"
 walk_at"as"
 walk_at"as"
 walk_at"as"
 exact h
theorem qHJ{l:LetT}(hz:l.flags.length≤sizeLine)(h:∀a,σ a=none→Q (.obj a) (σ.set a (.inst 137 [("uid",.int l.uid),("octets",.bytes l.octets),("flags",.tup (l.flags.map .str)),("instant",.int l.instant),("modseq",.int l.modseq)]))):
  FN w os (lv+2) 137 [.int l.uid,.bytes l.octets,.tup (l.flags.map .str),.int l.instant,.int l.modseq] σ Q X:=
 qFM (by decide) λx hx=>qF1 hz ⟨rfl,h x hx⟩
theorem qHz{v:Int}(h:∀al,(σ.set a (.inst 175 [])) al=none→Q .none ((σ.set al (.list [])).set a ((⟨x,v,1,1,0,[],[]⟩:BoxT).mo al))):
  FN w os (lv+1) 155 [.obj a,.str x,.int v] (σ.set a (.inst 175 [])) Q X:=by
 refine qA5 ["self","name","validity"] rfl (len3 λ_ _ _=>rfl) λA fr L=>?_
 walk_at"e"
 walk_at"as"
 walk_at"as"
 walk_at"as"
 walk_at"as"
 walk_at"as"
 refine qBP ?_
 walk_at"e"
 intro al nal
 have ne:a≠al:=λe=>by rw[e,Sg.set_same]at nal;cases nal
 have nal':(σ.set a (.inst 175 [])) al=none:=by rw[Sg.set_ne _ _ (Ne.symm ne)]at nal ⊢;exact nal
 walk_at"e"
 rw[Sg.set_comm _ ne]
 walk_at"as"
 refine qAR ?_
 walk_at"e"
 walk_at"as"
 exact h al nal'
theorem f_box{v:Int}(h:∀ab τ,σ ab=none→BoxAt σ τ ab ⟨x,v,1,1,0,[],[]⟩→Q (.obj ab) τ):FN w os (lv+2) 175 [.str x,.int v] σ Q X:=
 qFM (by decide) λa ha=>qHz λal hal=>⟨rfl,h a _ ha (by
  have ne:a≠al:=λe=>by rw[e,Sg.set_same]at hal;cases hal
  rw[Sg.set_ne _ _ (Ne.symm ne)]at hal
  refine .mk' (al:=al) (Sg.set_same _ _ _) ?_ ?_ ha hal
  ·rw[Sg.set_ne _ _ (Ne.symm ne),Sg.set_same];rfl
  ·exact(Sg.sub_set hal).trans (Sg.sub_set (by rw[Sg.set_ne _ _ ne];exact ha)))⟩
theorem qEy{b:BoxT}(hb:BoxAt F σ ab b)(h:∀τ,BoxAt F τ ab {b with top:=b.top+1}→Q (.int (b.top+1)) τ):FN w os (lv+1) 198 [.obj ab] σ Q X:=by
 obtain⟨al,h1,h2,s,f1,f2,ne⟩:=hb.get
 unfold BoxT.mo at h1
 have h3:=Sg.set_same σ ab (({b with top:=b.top+1}:BoxT).mo al)
 unfold BoxT.mo at h3
 refine qA5 ["box"] rfl (len1 λ_=>rfl) λA fr L=>?_
 walk_at"e"
 exact h (σ.set ab (({b with top:=b.top+1}:BoxT).mo al)) (BoxAt.flds (b:=b) h2 s f1 f2 ne rfl)
end
noncomputable def qC7(us:List Int)(uid:Int):Nat→Nat→Nat→Nat
 |0,low,_=>low
 |n+1,low,high=>if low < high then(bif decide (us.getD ((low+high) / 2) 0 < uid)then qC7 us uid n ((low+high) / 2+1) high else qC7 us uid n low ((low+high) / 2))else low
theorem search_t{uid:Int}{low high:Nat}(q:low < high):qC7 us uid (n+1) low high=bif decide (us.getD ((low+high) / 2) 0 < uid)then qC7 us uid n ((low+high) / 2+1) high else qC7 us uid n low ((low+high) / 2):=if_pos q
theorem search_f{uid:Int}{low high:Nat}(q:¬low < high):∀{n:Nat},qC7 us uid n low high=low
 |0=>rfl
 |_+1=>if_neg q
noncomputable def qH8(us:List Int)(uid:Int)(k:Nat):Int:=bif decide (k < us.length) && us.getD k 0==uid then(k:Int)else -1
noncomputable def qAX(ls:List LetT)(uid:Int):Int:=qH8 (ls.map LetT.uid) uid (qC7 (ls.map LetT.uid) uid ls.length 0 ls.length)
theorem qEc{ls:List LetT}{l:LetT}(h:ls[k]? =some l):(ls.map LetT.uid).getD k 0=l.uid:=by
 rw[List.getD_eq_getElem?_getD,List.getElem?_map,h];rfl
theorem qCx(ls:List LetT)(uid:Int):qAX ls uid= -1∨∃(i:Nat) (l:LetT),qAX ls uid=(i:Int)∧ls[i]? =some l∧l.uid=uid:=by
 unfold qAX qH8
 generalize qC7 _ _ _ _ _=k
 cases q:decide (k < (ls.map LetT.uid).length) && (ls.map LetT.uid).getD k 0==uid
 ·exact .inl rfl
 ·obtain⟨q1,q2⟩:=Bool.and_eq_true_iff.mp q
  have hk:=List.getElem?_eq_getElem (show k < ls.length from List.length_map LetT.uid▸of_decide_eq_true q1)
  exact .inr (y23 k _ rfl hk ((qEc hk).symm.trans (beq_iff_eq.mp q2)))
theorem qIi{lo hi:Nat}(q:lo < hi):lo≤(lo+hi) / 2∧(lo+hi) / 2 < hi:=
 ⟨(Nat.le_div_iff_mul_le (by decide)).mpr (Nat.mul_two lo▸Nat.add_le_add_left (Nat.le_of_lt q) lo),Nat.div_lt_of_lt_mul (Nat.two_mul hi▸Nat.add_lt_add_right q hi)⟩
section
theorem qCm{al:Addr}{ls:List LetT}{uid:Int}(hz:ls.length≤1000000)(hl:σ al=some (.list (ls.map LetT.toD)))(h:Q (.int (qAX ls uid)) σ):FN w os (lv+1) 191 [.obj al,.int uid] σ Q X:=by
 refine qA5 ["letters","uid"] rfl (len2 λ_ _=>rfl) λA fr L=>?_
 walk_at"e"
 refine C_lenL hl (by walk_at"sm") ?_
 rw[List.length_map]
 walk_at"e"
 refine qDH rfl (λn ρ τ=>τ=σ∧∃m lo hi:Nat,n=hi - lo∧hi - lo≤m∧lo≤hi∧hi≤ls.length∧ρ.lookup ("low":Str)=some (.int lo)∧ρ.lookup ("high":Str)=some (.int hi)∧ρ.lookup ("letters":Str)=some (.obj al)∧ρ.lookup ("uid":Str)=some (.int uid)∧qC7 (ls.map LetT.uid) uid m lo hi=qC7 (ls.map LetT.uid) uid ls.length 0 ls.length) ls.length ⟨rfl,ls.length,0,ls.length,rfl,Nat.le_refl _,Nat.zero_le _,Nat.le_refl _,rfl,rfl,rfl,rfl,rfl⟩ ?_
 rintro n ρ1 τ1 ⟨rfl,m,lo,hi,rfl,hm0,hlh,hh,h1,h2,h3,h4,h5⟩
 walk_at"e"
 by_cases q:lo < hi
 ·rw[decide_eq_true (Int.ofNat_lt.mpr q)]
  obtain⟨m1,m2⟩:=qIi q
  have e2:=fdivN (lo+hi) 2
  obtain⟨m,rfl⟩:∃k,m=k+1:=⟨m - 1,(Nat.sub_add_cancel (Nat.le_trans (Nat.sub_pos_of_lt q) hm0)).symm⟩
  have h5:=(search_t q).symm.trans h5
  generalize (lo+hi) / 2=k at m1 m2 e2 h5
  have hm:=Nat.lt_of_lt_of_le m2 hh
  obtain⟨l,hl1⟩:∃l,ls[k]? =some l:=⟨_,List.getElem?_eq_getElem hm⟩
  rw[qEc hl1]at h5
  walk_at"e"
  refine qE3 (by decide) noPy ?_
  rw[show((lo:Int)+(hi:Int)).fdiv 2=(k:Int) from e2]
  walk_at"e"
  refine(.mk (qAw hl) (qBb (k:=k) hl rfl (by rw[List.getElem?_map,hl1];rfl) (by omega) ?_))
  unfold LetT.toD
  walk_at"e"
  cases q2:decide (l.uid < uid) <;> rw[q2]at h5
  ·walk_at"e"
   exact(y13 (k - lo) (Nat.sub_lt_sub_right m1 m2) rfl ⟨m,lo,k,rfl,Nat.le_of_lt_succ (Nat.lt_of_lt_of_le (Nat.sub_lt_sub_right m1 m2) hm0),m1,Nat.le_of_lt hm,by walk_at"nm",by walk_at"nm",by walk_at"nm",by walk_at"nm",h5⟩)
  ·walk_at"e"
   exact(y13 (hi - (k+1)) (Nat.sub_lt_sub_left q (Nat.lt_succ_of_le m1)) rfl ⟨m,k+1,hi,rfl,Nat.le_of_lt_succ (Nat.lt_of_lt_of_le (Nat.sub_lt_sub_left q (Nat.lt_succ_of_le m1)) hm0),m2,hh,by walk_at"nm",by walk_at"nm",by walk_at"nm",by walk_at"nm",h5⟩)
 ·rw[decide_eq_false λz=>q (Int.ofNat_lt.mp z)]
  have h:Q (.int (qH8 (ls.map LetT.uid) uid lo)) τ1:=(search_f q).symm.trans h5▸h
  unfold qH8 at h
  rw[List.length_map]at h
  walk_at"e"
  refine C_lenL hl (by walk_at"sm") ?_
  rw[List.length_map]
  walk_at"e"
  by_cases q2:lo < ls.length
  ·rw[decide_eq_true (Int.ofNat_lt.mpr q2)]
   obtain⟨l,hl1⟩:∃l,ls[lo]? =some l:=⟨_,List.getElem?_eq_getElem q2⟩
   rw[qEc hl1,decide_eq_true q2]at h
   walk_at"e"
   refine(.mk (qAw hl) (qBb (k:=lo) hl rfl (by rw[List.getElem?_map,hl1];rfl) (by omega) ?_))
   unfold LetT.toD
   walk_at"e"
   cases q3:l.uid==uid <;> rw[q3]at h
   ·walk_at"e"
    exact h
   ·walk_at"e"
    exact h
  ·rw[decide_eq_false λz=>q2 (Int.ofNat_lt.mp z)]
   rw[decide_eq_false q2]at h
   walk_at"e"
   exact h
end
theorem qAG{α:Type}{target iter:Expr}{scope:Scope}{Fin:List D→Sg→Prop}(G:α→Option D)
  (h:WE c iter ρ σ (λd τ=>∃(xs:List α) (f:α→D) (KS:Sg→Prop),xs.length≤sizeLine∧SRC c d (xs.map f) KS ρ τ∧KS τ∧(∀x,x∈xs→∀C,CBody (c.comp scope cl C) target elt ifs ρ' (f x) τ (λy τ2=>y=G x∧τ2=τ))∧Fin (xs.filterMap G) τ) X):
  COMP c target elt iter ifs scope cl ρ ρ' σ X Fin:=by
 refine h.mono λd τ o1'=>x3_5 o1' λxs f KS hz src k step fin=>(.mk _ KS (by rw[List.length_map];exact hz) src (λi ys τ1=>τ1=τ∧ys=(xs.take i).filterMap G) ⟨rfl,rfl⟩ (λi ys τ1 o2'=>x0_2 o2' λe _=>e▸k) ?_ ?_)
 ·rintro i ys τ1 d' hd ⟨rfl,rfl⟩ C
  rw[List.getElem?_map]at hd
  obtain⟨x,hx,rfl⟩:=Option.map_eq_some_iff.mp hd
  refine qEa (step x (List.mem_of_getElem? hx) C) ?_
  rintro y τ2 ⟨rfl,rfl⟩
  refine⟨rfl,?_⟩
  rw[List.take_add_one,hx]
  simp only[Option.toList_some,List.filterMap_append,List.filterMap_cons,List.filterMap_nil]
  cases G x <;> simp[push?]
 ·rintro ys τ1 ⟨rfl,rfl⟩ _
  rw[List.length_map,List.take_length]
  exact fin
theorem qBH(ls:List LetT)(uid:Int):qAX ls uid= -1∨∃(i:Nat) (l:LetT),qAX ls uid=(i:Int)∧ls[i]? =some l∧i < ls.length:=by
 rcases qCx ls uid with e| ⟨i,l,e1,e2,_⟩
 ·exact .inl e
 ·exact .inr (y23 i l e1 e2 ((List.getElem?_eq_some_iff.mp e2).1))
noncomputable def BoxT.letterT(b:BoxT)(uid:Int):Option LetT:=if qAX b.letters uid ≥ 0 then b.letters[(qAX b.letters uid).toNat]? else none
noncomputable def optD:Option LetT→D
 |some l=>l.toD
 |none=>.none
noncomputable def LetT.told(l:LetT):D:=.tup [.int l.uid,.bytes l.octets,.tup (l.flags.map .str),.int l.instant,.int l.modseq]
noncomputable def BoxT.told(b:BoxT):D:=.tup [.str b.name,.int b.validity,.int b.next_uid,.int b.top,.int b.floor,.tup (b.letters.map LetT.told),.tup (b.gone.map qBI)]
section
theorem qF0{l:LetT}(h:Q l.told σ):FN w os (lv+1) 134 [l.toD] σ Q X:=by
 unfold LetT.toD
 refine qA5 ["self"] rfl (len1 λ_=>rfl) λA fr L=>?_
 walk_at"e"
 exact h
theorem qD1{b:BoxT}{uid:Int}(hb:BoxAt F σ ab b)(hz:b.letters.length≤1000000)(h:Q (optD (b.letterT uid)) σ):FN w os (lv+2) 162 [.obj ab,.int uid] σ Q X:=by
 obtain⟨al,h1,h2,s,f1,f2,ne⟩:=hb.get
 unfold BoxT.mo at h1
 unfold BoxT.letterT at h
 refine qA5 ["self","uid"] rfl (len2 λ_ _=>rfl) λA fr L=>?_
 walk_at"e"
 refine qA1 (lv:=1) rfl (by walk_at"lv") (qCm (lv:=0) hz h2 ?_)
 walk_at"e"
 rcases qBH b.letters uid with e| ⟨i,l,e1,e2,e3⟩
 ·rw[e]at h ⊢
  walk_at"e"
  exact h
 ·rw[e1]at h ⊢
  rw[decide_eq_true (show(i:Int) ≥ 0 by omega)]
  rw[if_pos (by omega),show((i:Int)).toNat=i from rfl,e2]at h
  walk_at"e"
  exact(.mk (qAw h2) (qBb (k:=i) h2 rfl (by rw[List.getElem?_map,e2];rfl) (by omega) h))
theorem qEO{b:BoxT}(hb:BoxAt F σ ab b)(hz:b.letters.length≤1000000)(h:Q (.lst ((b.letters.map LetT.uid).map .int)) σ):FN w os (lv+1) 167 [.obj ab] σ Q X:=by
 obtain⟨al,h1,h2,s,f1,f2,ne⟩:=hb.get
 unfold BoxT.mo at h1
 refine qA5 ["self"] rfl (len1 λ_=>rfl) λA fr L=>?_
 walk_at"e"
 refine qAO (cl:=[]) (ρ':=[]) ⟨rfl,by kernel_rfl!,rfl,qAA,trivial⟩ ?_
 refine qAG (α:=LetT) (λl=>some (.int l.uid)) ?_
 walk_at"e"
 refine(y35 b.letters LetT.toD _ (by walk_at"sz") (qDI rfl h2) h2 (λx hx C=>.mk ?_) ?_)
 ·unfold LetT.toD
  walk_at"e"
  exact⟨rfl,rfl⟩
 ·rw[show(b.letters.filterMap λl=>some (D.int l.uid))=(b.letters.map LetT.uid).map .int by rw[List.map_map,←List.filterMap_eq_map];rfl]
  exact h
theorem qHy{b:BoxT}(hb:BoxAt F σ ab b)(hz:b.letters.length≤1000000)(hg:b.gone.length≤1000000)(h:Q b.told σ):FN w os (lv+2) 172 [.obj ab] σ Q X:=by
 obtain⟨al,h1,h2,s,f1,f2,ne⟩:=hb.get
 unfold BoxT.mo at h1
 refine qA5 ["self"] rfl (len1 λ_=>rfl) λA fr L=>?_
 walk_at"e"
 refine qAO (cl:=[]) (ρ':=[]) ⟨rfl,by kernel_rfl!,rfl,qAA,trivial⟩ ?_
 refine qAG (α:=LetT) (λl=>some l.told) ?_
 walk_at"e"
 refine(y35 b.letters LetT.toD _ (by walk_at"sz") (qDI rfl h2) h2 (λx hx C=>.mk ?_) ?_)
 ·walk_at"e"
  refine(.mk _ _ (GM_inst (f:=134)) (qAJ rfl) ?_)
  walk_at"e"
  refine qA1 (lv:=1) rfl (by simp only[Cx.comp,cxOf];omega) (qF0 (lv:=0) ⟨rfl,rfl⟩)
 ·rw[show(b.letters.filterMap λl=>some l.told)=b.letters.map LetT.told by rw[←List.filterMap_eq_map];rfl]
  walk_at"e"
  refine qBy (by walk_at"sm") ?_
  walk_at"e"
  refine qBy (by walk_at"sm") ?_
  walk_at"e"
  exact h
end
section
variable {X:Ro→Addr→Sg→Prop}
def BoxSP.Ar(Z:Prop){α:Type}(ρ:Ro)(inj:α→D)(upd:BoxT→α→BoxT)(N:Ro→Sg→Prop)(d od:D)(υ:Sg):Prop:=∀(a al:Addr) (b:BoxT) (v:α) (e1:od= .obj a) (e2:d=inj v) (e3:υ a=some (b.mo al)) (n:N ρ (υ.set a ((upd b v).mo al))),Z
@[irreducible] def BoxSP {α:Type} (ρ:Ro) (inj:α→D) (upd:BoxT→α→BoxT) (N:Ro→Sg→Prop) (d od:D) (υ:Sg):Prop:=∀Z,BoxSP.Ar Z ρ inj upd N d od υ→Z
theorem BoxSP.mk{α:Type}{inj:α→D}{upd:BoxT→α→BoxT}{od:D}{υ:Sg}:BoxSP.Ar (BoxSP ρ inj upd N d od υ) ρ inj upd N d od υ:=by delta BoxSP;exact λa al b v e1 e2 e3 n _ k=>k a al b v e1 e2 e3 n
theorem BoxSP.el{α:Type}{inj:α→D}{upd:BoxT→α→BoxT}{od:D}{υ:Sg}(h:BoxSP ρ inj upd N d od υ):BoxSP.Ar Z ρ inj upd N d od υ→Z:=by delta BoxSP at h;exact h Z
abbrev kBoxS{α:Type}(c:Cx)(o:Expr)(ρ:Ro)(inj:α→D)(upd:BoxT→α→BoxT)(N:Ro→Sg→Prop)(X:Addr→Sg→Prop):D→Sg→Prop:=λd τ=>WE c o ρ τ (BoxSP ρ inj upd N d) X
theorem qH0{o:Expr}{p':Pos}(h:WE c e ρ σ (kBoxS c o ρ (λv:Str=>.str v) (λb v=>{b with name:=v}) N (X ρ)) (X ρ))(hs:autoParam (pure false=swapsWith e (some (.Attribute o "name" p')) p.line c.env) auR):ST c (.Assign [.Attribute o "name" p'] e p) ρ σ N Rt X:=
 qAT (h.mono λd τ k=>k.mono λod υ o1'=>o1'.el λa al b v e1 e2 e3 n=>(.mk a _ _ e1 e3 (by kernel_rfl!) rfl (by subst e2;exact n))) hs
theorem qE1{o:Expr}{p':Pos}(h:WE c e ρ σ (kBoxS c o ρ (λv:Int=>.int v) (λb v=>{b with next_uid:=v}) N (X ρ)) (X ρ))(hs:autoParam (pure false=swapsWith e (some (.Attribute o "next_uid" p')) p.line c.env) auR):ST c (.Assign [.Attribute o "next_uid" p'] e p) ρ σ N Rt X:=
 qAT (h.mono λd τ k=>k.mono λod υ o3'=>o3'.el λa al b v e1 e2 e3 n=>(.mk a _ _ e1 e3 (by kernel_rfl!) rfl (by subst e2;exact n))) hs
theorem qG9{o:Expr}{p':Pos}(h:WE c e ρ σ (kBoxS c o ρ (λv:Int=>.int v) (λb v=>{b with floor:=v}) N (X ρ)) (X ρ))(hs:autoParam (pure false=swapsWith e (some (.Attribute o "floor" p')) p.line c.env) auR):ST c (.Assign [.Attribute o "floor" p'] e p) ρ σ N Rt X:=
 qAT (h.mono λd τ k=>k.mono λod υ o5'=>o5'.el λa al b v e1 e2 e3 n=>(.mk a _ _ e1 e3 (by kernel_rfl!) rfl (by subst e2;exact n))) hs
theorem qH1{o:Expr}{p':Pos}(h:WE c e ρ σ (kBoxS c o ρ (λv:List (Int × Int)=>.lst (v.map qBI)) (λb v=>{b with gone:=v}) N (X ρ)) (X ρ))(hs:autoParam (pure false=swapsWith e (some (.Attribute o "gone" p')) p.line c.env) auR):ST c (.Assign [.Attribute o "gone" p'] e p) ρ σ N Rt X:=
 qAT (h.mono λd τ k=>k.mono λod υ o6'=>o6'.el λa al b v e1 e2 e3 n=>(.mk a _ _ e1 e3 (by kernel_rfl!) rfl (by subst e2;exact n))) hs
end
noncomputable def BoxT.add(b:BoxT)(oct:Array UInt8)(ns:List Str)(inst:Int):BoxT:= {b with next_uid:=b.next_uid+1,top:=b.top+1,letters:=b.letters++ [⟨b.next_uid,oct,ns,inst,b.top+1⟩]}
noncomputable def BoxT.setF(b:BoxT)(uid:Int)(ns:List Str):Option (Bool × BoxT):=
 if qAX b.letters uid < 0 then none else match b.letters[(qAX b.letters uid).toNat]? with
  |some l=>if l.flags=ns then some (false,b)else some (true,{b with top:=b.top+1,letters:=b.letters.set (qAX b.letters uid).toNat ⟨uid,l.octets,ns,l.instant,b.top+1⟩})
  |none=>none
section
end
section
theorem qD2{b:BoxT}{oct:Array UInt8}{inst:Int}(hb:BoxAt F σ ab b)(hz:b.letters.length≤1000000)(hf:∀x∈fs,x∈flagsL)(hl:fs.length < 64)
  (h:∀ns,qB0 fs=some ns→∀τ,BoxAt F τ ab (b.add oct ns inst)→Q (LetT.toD ⟨b.next_uid,oct,ns,inst,b.top+1⟩) τ)(hx:qB0 fs=none→X 76 σ):
  FN w os (lv+6) 205 [.obj ab,.bytes oct,.tup (fs.map .str),.int inst] σ Q X:=by
 obtain⟨al,h1,h2,s,f1,f2,ne⟩:=hb.get
 refine qA5 ["box","octets","flags","instant"] rfl (len4 λ_ _ _ _=>rfl) λA fr L=>?_
 walk_at"e"
 refine qA1 (lv:=5) rfl (by walk_at"lv") (qB2 (lv:=0) hf hl (λns e=>?_) hx)
 walk_at"e1"
 walk_at"e1"
 refine qER ?_
 walk_at"e"
 refine qA1 (lv:=1) rfl (by walk_at"lv") (qEy (lv:=0) hb λτ hb2=>?_)
 obtain⟨al2,k1,k2,s2,g1,g2,ne2⟩:=hb2.get
 walk_at"e"
 refine qA1 (lv:=2) rfl (by walk_at"lv") (qHJ (lv:=0) (l:=⟨b.next_uid,oct,ns,inst,b.top+1⟩) (show ns.length≤sizeLine by have:=(qAg hf e).2;unfold sizeLine;omega) λy hy=>?_)
 refine(.mk y _ _ rfl (Sg.set_same _ _ _) ?_)
 rw[Sg.del_set hy]
 have k3:=Sg.set_same τ ab (({b with top:=b.top+1,next_uid:=b.next_uid+1}:BoxT).mo al2)
 have k4:(τ.set ab (({b with top:=b.top+1,next_uid:=b.next_uid+1}:BoxT).mo al2)) al2=some (.list (b.letters.map LetT.toD)):=by rw[Sg.set_ne _ _ ne2.symm];exact k2
 walk_at"e"
 refine(.mk _ _ (qB5 k4) qAD ?_)
 walk_at"e"
 refine qBQ k4 (by walk_at"sm") ?_
 walk_at"e"
 have k5:=BoxAt.both (b':=b.add oct ns inst) s2 g1 g2 ne2
 have k6:(b.add oct ns inst).letters.map LetT.toD=b.letters.map LetT.toD++ [LetT.toD ⟨b.next_uid,oct,ns,inst,b.top+1⟩]:=by unfold BoxT.add;rw[List.map_append];rfl
 rw[k6]at k5
 exact h ns e _ k5
end
noncomputable def qD6(fs:List Str)(way:Str)(ns:List Str):Option (List Str):=if way="+" then qB0 (fs++ns)else if way="-" then some (fs.filter λn=>!decide (n∈ns))else some ns
section
theorem qDf{b:BoxT}{uid:Int}(hb:BoxAt F σ ab b)(hz:b.letters.length≤1000000)(hf:∀x∈fs,x∈flagsL)(hl:fs.length < 64)
  (h:∀ns r b',qB0 fs=some ns→b.setF uid ns=some (r,b')→∀τ,BoxAt F τ ab b'→Q (.bool r) τ)(hx:(qB0 fs).bind (b.setF uid)=none→X 76 σ):
  FN w os (lv+6) 212 [.obj ab,.int uid,.tup (fs.map .str)] σ Q X:=by
 obtain⟨al,h1,h2,s,f1,f2,ne⟩:=hb.get
 refine qA5 ["box","uid","flags"] rfl (len3 λ_ _ _=>rfl) λA fr L=>?_
 walk_at"e"
 refine qA1 (lv:=5) rfl (by walk_at"lv") (qB2 (lv:=0) hf hl (λns e=>?_) λk=>hx (by rw[k];rfl))
 have hx:b.setF uid ns=none→X 76 σ:=λk=>hx (by rw[e];exact k)
 have h:=λr b'=>h ns r b' e
 walk_at"e"
 refine qA1 (lv:=1) rfl (by walk_at"lv") (qCm (lv:=0) hz h2 ?_)
 walk_at"e"
 rcases qBH b.letters uid with e1| ⟨i,l,e1,e2,e3⟩
 ·rw[e1]
  walk_at"e"
  walk_at"x"
  exact hx (by unfold BoxT.setF;rw[e1];rfl)
 ·rw[e1,decide_eq_false (show ¬(i:Int) < 0 by omega)]
  have hs:b.setF uid ns=if l.flags=ns then some (false,b)else some (true,{b with top:=b.top+1,letters:=b.letters.set i ⟨uid,l.octets,ns,l.instant,b.top+1⟩}):=by
   unfold BoxT.setF
   rw[if_neg (by omega),e1,show((i:Int)).toNat=i from rfl,e2]
  walk_at"e"
  refine(.mk (qAw h2) (qBb (k:=i) h2 rfl (by rw[List.getElem?_map,e2];rfl) (by omega) ?_))
  unfold LetT.toD
  walk_at"e"
  refine O_eqTs ?_
  walk_at"e"
  by_cases q:l.flags=ns
  ·rw[decide_eq_true q]
   rw[if_pos q]at hs
   walk_at"e"
   exact h false b hs σ hb
  ·rw[decide_eq_false q]
   rw[if_neg q]at hs
   walk_at"e1"
   walk_at"e1"
   refine qD7 ?_
   refine qER ?_
   walk_at"e"
   refine qA1 (lv:=1) rfl (by walk_at"lv") (qEy (lv:=0) hb λτ hb2=>?_)
   obtain⟨al2,k1,k2,s2,g1,g2,ne2⟩:=hb2.get
   walk_at"e"
   refine qA1 (lv:=2) rfl (by walk_at"lv") (qHJ (lv:=0) (l:=⟨uid,l.octets,ns,l.instant,b.top+1⟩) (show ns.length≤sizeLine by have:=(qAg hf e).2;unfold sizeLine;omega) λy hy=>?_)
   refine(.mk y _ _ rfl (Sg.set_same _ _ _) ?_)
   rw[Sg.del_set hy]
   walk_at"e"
   refine qHW (k:=i) k2 rfl (by rw[List.length_map];exact e3) (by omega) ?_
   walk_at"e"
   refine h true _ hs _ (.mk' (al:=al2) ?_ ?_ (s2.setN g2 _) g1 g2)
   ·rw[Sg.set_ne _ _ ne2];exact k1
   ·rw[Sg.set_same]
    exact congrArg (λl=>some (MO.list l)) (show(b.letters.map LetT.toD).set i (LetT.toD ⟨uid,l.octets,ns,l.instant,b.top+1⟩)=(b.letters.set i ⟨uid,l.octets,ns,l.instant,b.top+1⟩).map LetT.toD by rw[List.map_set])
theorem qF4{l:LetT}{way:Str}(hl:FlagsOk l.flags)(hf:FlagsOk fs)(hw:way="+"∨way="-"∨way="=")(h:∀ns rs,qB0 fs=some ns→qD6 l.flags way ns=some rs→Q (.tup (rs.map .str)) σ):
  FN w os (lv+6) 217 [l.toD,.str way,.tup (fs.map .str)] σ Q X:=by
 unfold LetT.toD
 refine qA5 ["letter","way","flags"] rfl (len3 λ_ _ _=>rfl) λA fr L=>?_
 walk_at"e"
 obtain⟨ns,e⟩:=qAv hf.1
 have hn:=qAg hf.flags e
 refine qA1 (lv:=5) rfl (by walk_at"lv") (qB2 (lv:=0) hf.flags (by have:=hf.2;omega) (λns' e'=>?_) λk=>by rw[e]at k;cases k)
 obtain rfl:ns=ns':=by rw[e]at e';injection e'
 have h:=λrs=>h ns rs e
 unfold qD6 at h
 walk_at"e"
 rcases hw with rfl|rfl|rfl
 ·walk_at"e"
  refine O_addT (by rw[List.length_map,List.length_map];have:=hl.2;have:=hn.2;unfold sizeLine;omega) ?_
  rw[←List.map_append]
  have hg:∀x∈l.flags++ns,x∈goodF:=λx m=>(List.mem_append.mp m).elim (hl.1 x) (hn.1 x)
  obtain⟨rs,e2⟩:=qAv hg
  walk_at"e"
  refine qA1 (lv:=5) rfl (by walk_at"lv") (qB2 (lv:=0) (λx m=>(qCe (hg x m)).1) (by rw[List.length_append];have:=hl.2;have:=hn.2;omega) (λrs' e3=>?_) λk=>by rw[e2]at k;cases k)
  exact h rs' (by rw[if_pos rfl];exact e3)
 ·walk_at"e"
  refine qAO (cl:=[("names",L+1)]) (ρ':=[("names",.tup (ns.map .str))]) ⟨rfl,by kernel_rfl!,rfl,qAH rfl (.inl rfl) qAA,(y03 (.inl rfl) rfl rfl),trivial⟩ ?_
  refine qAG (α:=Str) (λx=>if !decide (x∈ns)then some (.str x)else none) ?_
  walk_at"e"
  refine(y35 l.flags .str (λ_=>True) (by have:=hl.2;unfold sizeLine;omega) (qCM rfl) trivial (λx hx C=>.mk ?_) ?_)
  ·walk_at"e"
   refine O_ninT ?_
   walk_at"e"
   cases q:(!decide (x∈ns))
   ·walk_at"e"
    exact⟨rfl,rfl⟩
   ·walk_at"e"
    exact⟨rfl,rfl⟩
  ·have e4:(l.flags.filterMap λx=>if !decide (x∈ns)then some (D.str x)else none)=(l.flags.filter λn=>!decide (n∈ns)).map .str:=by
    rw[←List.filterMap_eq_map,List.filterMap_filter];rfl
   rw[e4]
   walk_at"e"
   refine qBy (by rw[List.length_map];have:=List.length_filter_le (λn=>!decide (n∈ns)) l.flags;have:=hl.2;unfold sizeLine;omega) ?_
   exact h _ rfl
 ·walk_at"e"
  exact h _ rfl
end
noncomputable def optI:Option Int→D
 |some n=>.int n
 |none=>.none
noncomputable def refB(u:Option Int)(l:LetT):Bool:=match u with
 |some n=>decide (l.modseq > n)
 |none=>false
noncomputable def qCy(ns:List Int):List Int:=(qAB ns).map (·.1)
noncomputable def qAa(ns:List Int):List Int:=qCG (qCy ns)
theorem qDR(l:List Int)(x:Int):qAB (l++ [x])=pset (qAB l) x (.bool true):=by unfold qAB;rw[List.foldl_append];rfl
theorem qE8(l:List Int)(acc:List (Int × D)):(l.foldl (λacc n=>pset acc n (.bool true)) acc).length≤acc.length+l.length:=by
 induction l generalizing acc with
 |nil=>exact Nat.le_refl _
 |cons x r ih=>
  rw[List.foldl_cons]
  have:=ih (pset acc x (.bool true))
  have:=qBG acc x (D.bool true)
  rw[List.length_cons];omega
theorem qBV(l:List Int):(qAB l).length≤l.length:=by have:=qE8 l [];simpa [qAB] using this
theorem qCV(l:List Int):(qAa l).length≤l.length:=by
 unfold qAa qCG qCy
 rw[List.length_mergeSort,List.length_map]
 exact qBV l
section
theorem qD0{l:LetT}{u:Option Int}(h:Q (.bool (refB u l)) σ):FN w os (lv+1) 244 [l.toD,optI u] σ Q X:=by
 unfold LetT.toD
 cases u with
 |none=>
  unfold optI
  refine qA5 ["letter","unless"] rfl (len2 λ_ _=>rfl) λA fr L=>?_
  walk_at"e"
  exact h
 |some n=>
  unfold optI
  refine qA5 ["letter","unless"] rfl (len2 λ_ _=>rfl) λA fr L=>?_
  walk_at"e"
  exact h
theorem qHx(hz:us.length < 64)(h:Q (.lst ((qAa us).map .int)) σ):FN w os (lv+1) 257 [.tup (us.map .int)] σ Q X:=by
 refine qCt ?_
 refine qA5 ["uids"] rfl (len1 λ_=>rfl) λA fr L=>?_
 walk_at"e1"
 walk_at"e1"
 refine qHS λa na=>?_
 walk_at"e"
 refine qBA (J:=λd τ=>d= .tup (us.map .int)∧τ=σ.set a (.dint [])) rfl (by walk_at"e";exact⟨rfl,rfl⟩) ?_
 rintro d τ ⟨rfl,rfl⟩
 refine(.mk _ (λ_=>True) (qCM rfl) (λi ρ τ1=>ρ.lookup ("seen":Str)=some (.obj a)∧τ1=σ.set a (.dint (qAB (us.take i)))) ⟨rfl,rfl⟩ (λ_ _ _ _=>trivial) ?_ ?_)
 ·rintro i ρ1 τ1 d hd ⟨h1,rfl⟩
  rw[List.getElem?_map]at hd
  obtain⟨y,hy,rfl⟩:=Option.map_eq_some_iff.mp hd
  walk_at"e"
  refine I_dI (Sg.set_same _ _ _) (by have:=qBV (us.take i);rw[List.length_take]at this;unfold sizeLine;omega) ?_
  rw[Sg.set_set]
  walk_at"e"
  refine⟨by walk_at"nm",?_⟩
  rw[List.take_add_one,hy,Option.toList_some,qDR]
 ·rintro ρ1 τ1 ⟨h1,rfl⟩
  rw[List.length_map,List.take_length]
  have hk:=qBV us
  walk_at"e"
  refine qJl rfl (Sg.set_same _ _ _) (by walk_at"sz") ?_
  rw[show((qAB us).map λe=>D.int e.1)=(qCy us).map .int by unfold qCy;rw[List.map_map];rfl]
  walk_at"e"
  refine qFI (by unfold qCy;rw[List.length_map];omega) ?_
  exact(y12 σ (Sg.sub_set na) h)
end
theorem Fam.del{P:List Slot}{o:MO}(h:Fam (F.set a o) σ P)(n:F a=none):Fam F (σ.del a) P:=by
 have ne:∀p∈P,p.ab≠a∧p.al≠a:=λp m=>by
  have:=h.fr p m
  constructor
  ·intro q;rw[q,Sg.set_same]at this;cases this.1
  ·intro q;rw[q,Sg.set_same]at this;cases this.2
 have k:F.Sub (F.set a o):=Sg.sub_set n
 refine⟨λx p e=>?_,λp m=>?_,h.nb,h.nl,λp m=>⟨k.none (h.fr p m).1,k.none (h.fr p m).2⟩⟩
 ·unfold Sg.del
  rw[if_neg (λq:x=a=>by rw[q,n]at e;cases e)]
  exact h.sub x p (k x p e)
 ·have:=h.ok p m
  unfold Slot.ok Sg.del
  rw[if_neg (ne p m).1,if_neg (ne p m).2]
  exact this
theorem BoxAt.set{b:BoxT}(h:BoxAt F σ ab b){x:Addr}{o:MO}(e:F x=some o)(o':MO):BoxAt (F.set x o') (σ.set x o') ab b:=x1_1 h λal f=>⟨al,f.set e o'⟩
theorem BoxAt.new{b:BoxT}(h:BoxAt F σ ab b){x:Addr}(e:σ x=none)(o':MO):BoxAt (F.set x o') (σ.set x o') ab b:=x1_1 h λal f=>⟨al,f.new e o'⟩
theorem BoxAt.del{b:BoxT}{o:MO}(h:BoxAt (F.set a o) σ ab b)(n:F a=none):BoxAt F (σ.del a) ab b:=x1_1 h λal f=>⟨al,f.del n⟩
theorem BoxAt.weak{G:Sg}{b:BoxT}(h:BoxAt F σ ab b)(k:G.Sub F):BoxAt G σ ab b:=x1_1 h λal f=>⟨al,f.weak k⟩
theorem BoxAt.sub{b:BoxT}(h:BoxAt F σ ab b):F.Sub σ:=x1_1 h λ_ f=>f.sub
theorem qEf{b b':BoxT}{uid:Int}{ns:List Str}{t:Bool}(e:b.setF uid ns=some (t,b')):b'.letters.length=b.letters.length:=by
 unfold BoxT.setF at e
 split at e
 ·cases e
 ·split at e
  ·split at e
   ·injection e with e;injection e with _ e;rw[←e]
   ·injection e with e;injection e with _ e;rw[←e];exact List.length_set
  ·cases e
theorem qFE{ns rs:List Str}{way:Str}(hf:FlagsOk fs)(hn:FlagsOk ns)(e:qD6 fs way ns=some rs):FlagsOk rs:=by
 unfold qD6 at e
 split at e
 ·exact qAg (λx m=>(List.mem_append.mp m).elim (hf.flags x) (hn.flags x)) e
 ·split at e
  ·injection e with e
   subst e
   exact⟨λx m=>hf.1 x (List.mem_filter.mp m).1,Nat.le_trans (List.length_filter_le _ _) hf.2⟩
  ·injection e with e
   subst e
   exact hn
noncomputable def qAo(u:Option Int)(way:Str)(ns:List Str):BoxT→List Int→List LetT→Option (BoxT × List Int)
 |b,ch,[]=>some (b,ch)
 |b,ch,l::r=>if refB u l then qAo u way ns b ch r else
  match((qD6 l.flags way ns).bind qB0).bind (b.setF l.uid) with
  |none=>none
  |some p=>qAo u way ns p.2 (if p.1 then ch++ [l.uid]else ch) r
theorem qIR{u:Option Int}{way:Str}{ns:List Str}{b:BoxT}{ch:List Int}:qAo u way ns b ch []=some (b,ch):=rfl
theorem qDQ{u:Option Int}{way:Str}{ns:List Str}{b:BoxT}{ch:List Int}{l:LetT}{r:List LetT}:qAo u way ns b ch (l::r)=if refB u l then qAo u way ns b ch r else
  match((qD6 l.flags way ns).bind qB0).bind (b.setF l.uid) with
  |none=>none
  |some p=>qAo u way ns p.2 (if p.1 then ch++ [l.uid]else ch) r:=rfl
noncomputable def BoxT.picks(b:BoxT)(us:List Int):List LetT:=(qAa us).filterMap b.letterT
theorem qCI{b:BoxT}{u:Int}{l:LetT}(e:b.letterT u=some l):l∈b.letters:=by
 unfold BoxT.letterT at e
 split at e
 ·exact List.mem_of_getElem? e
 ·cases e
theorem qDU{b:BoxT}:∀l∈b.picks us,l∈b.letters:=λl h=>by
 obtain⟨u,_,e⟩:=List.mem_filterMap.mp h
 exact qCI e
theorem FN_dv{as':List D}{st:Stmt}{name qual:Str}{pm:Value}{cd T:Addr}{items:Array Value}(ns:List Str)
  (hK:(KF w.params).lookup a=some (fnO st name qual (.ref T) pm cd))(hcd:(cd,qual)∈codeT)(hT:(KF w.params).lookup T=some ⟨.type "tuple",none,.seq items,#[]⟩)
  (hb:∀(g:Heap) vs,DVs g as vs→∃vs',DVs g as' vs'∧∃k,bindArgs (fdOf st name qual (.ref T) pm cd) ⟨vs,[]⟩=seqItems? (fdOf st name qual (.ref T) pm cd).defaults >>=k∧k (some items)=pure (ns.zip vs'))
  (body:∀A fr L,STs (cxOf (fdOf st name qual (.ref T) pm cd) a w os lv A fr L) (qBs st) (ns.zip as') σ (λ_ τ=>Q .none τ) Q (λ_=>X))
  (hnd:ns.Nodup:=by decide+kernel)(hkind:∀x∈ns,(qA3 st).names.lookup x=some .local∨(qA3 st).names.lookup x=some .cell:=by decide+kernel)
  (hcn:((cellsFrom 0 (qA3 st).names []).map (·.1)).Nodup:=by decide+kernel)
  (hk:autoParam (.function=(qA3 st).kind) auR)(hco:autoParam (false=(qA3 st).isCoroutine) auR)(hgen:autoParam (false=(qA3 st).isGenerator) auR):FN w os (lv+1) a as σ Q X:=
 qDL ns hK hcd (λg s vs wd k dvs=>by
  obtain⟨vs',d',kk,e1,e2⟩:=hb g vs dvs
  exact(y23 as' vs' d' (BindsTo.of_defaults rfl (k _ _ (wd.K _ _ hT)) rfl e1 e2) body)) hnd hkind hcn hk hco hgen
theorem DVs.five{a b c e:D}(h:DVs g [a,b,c,d,e] vs):∃v1 v2 v3 v4 v5,vs= [v1,v2,v3,v4,v5]:=by
 exact h.on λv1 w _ r=>r.on λv2 w _ r=>r.on λv3 w _ r=>r.on λv4 w _ r=>r.on λv5 w _ r=>r.end (y51 _ _ _ _ _ rfl)
section
theorem qEw{b b':BoxT}{ch':List Int}{way:Str}{ns:List Str}{u:Option Int}(hb:BoxAt F σ ab b)(hz:b.letters.length≤1000000)(hu:us.length < 64)
  (hl:∀l∈b.letters,FlagsOk l.flags)(hf:FlagsOk fs)(hw:way="+"∨way="-"∨way="=")(hn:qB0 fs=some ns)(hg:qAo u way ns b [] (b.picks us)=some (b',ch'))
  (h:∀τ,BoxAt F τ ab b'→Q (.tup [.lst (ch'.map .int),.lst (((b.picks us).filter (refB u)).map λl=>.int l.uid)]) τ):
  FN w os (lv+8) 250 [.obj ab,.tup (us.map .int),.str way,.tup (fs.map .str),optI u] σ Q X:=by
 obtain⟨al,h1,h2,s,f1,f2,ne⟩:=hb.get
 refine FN_dv (st:=stAt 27) (name:="store_flags") (qual:="store_flags") (pm:=.str "postkeep.changes" 504) (cd:=249) (T:=245) (items:=#[.none]) ["box","uids","way","flags","unless"] rfl (by decide+kernel) rfl (λg vs dvs=>(y12 vs dvs (by obtain⟨v1,v2,v3,v4,v5,rfl⟩:=dvs.five;exact(y12 _ rfl rfl)))) (λA fr L=>?_)
 have hdl:=qCV us
 have hpl:(b.picks us).length≤us.length:=Nat.le_trans (List.length_filterMap_le _ _) hdl
 walk_at"e"
 refine qAi (cl:=[("box",L+1)]) (ρ':=[("box",.obj ab)]) rfl ⟨rfl,by kernel_rfl!,rfl,qAH rfl (.inl rfl) qAA,(y03 (.inl rfl) rfl rfl),trivial⟩ ?_
 refine qAG (α:=Int) (λp=>if p ≥ 0 then(b.letters[p.toNat]?).map LetT.toD else none) ?_
 refine qAO (cl:=[("box",L+1)]) (ρ':=[("box",.obj ab)]) ⟨rfl,by kernel_rfl!,rfl,qAH rfl (.inl rfl) qAA,(y03 (.inl rfl) rfl rfl),trivial⟩ ?_
 refine qAG (α:=Int) (λu=>some (.int (qAX b.letters u))) ?_
 walk_at"e"
 refine qA1 (lv:=1) rfl (by simp only[Cx.comp,cxOf];omega) (qHx (lv:=0) hu ?_)
 refine(y35 (qAa us) .int (λ_=>True) (by walk_at"sz") (qAN rfl) trivial (λx hx C=>.mk ?_) ?_)
 ·walk_at"e"
  refine qA1 (lv:=1) rfl (by simp only[Cx.comp,cxOf];omega) (qCm (lv:=0) hz h2 ⟨rfl,rfl⟩)
 rw[show((qAa us).filterMap λu=>some (D.int (qAX b.letters u)))=((qAa us).map (qAX b.letters)).map .int by rw[List.map_map,←List.filterMap_eq_map];rfl]
 refine(y35 ((qAa us).map (qAX b.letters)) .int (λ_=>True) (by walk_at"sm") (qAN rfl) trivial (λx hx C=>.mk ?_) ?_)
 ·obtain⟨y,_,rfl⟩:=List.mem_map.mp hx
  walk_at"e"
  rcases qBH b.letters y with e| ⟨i,l,e1,e2,e3⟩
  ·rw[e]
   walk_at"e"
   exact⟨rfl,rfl⟩
  ·rw[e1,decide_eq_true (show(i:Int) ≥ 0 by omega)]
   walk_at"e"
   refine(.mk (qAw h2) (qBb (k:=i) h2 rfl (by rw[List.getElem?_map,e2];rfl) (by omega) ?_))
   refine⟨?_,rfl⟩
   rw[if_pos (by omega),show((i:Int)).toNat=i from rfl,e2];rfl
 rw[show((qAa us).map (qAX b.letters)).filterMap (λp=>if p ≥ 0 then(b.letters[p.toNat]?).map LetT.toD else none)=(b.picks us).map LetT.toD by
  unfold BoxT.picks
  rw[List.filterMap_map,List.map_filterMap]
  congr 1
  funext y
  unfold BoxT.letterT
  show(if qAX b.letters y ≥ 0 then _ else _)=_
  split <;> rfl]
 walk_at"e"
 refine qAi (cl:=[("unless",L+2)]) (ρ':=[("unless",optI u)]) rfl ⟨rfl,by kernel_rfl!,rfl,qAH rfl (.inl rfl) qAA,(y03 (.inl rfl) rfl rfl),trivial⟩ ?_
 refine qAG (α:=LetT) (λl=>if refB u l then some (.int l.uid)else none) ?_
 walk_at"e"
 refine(y35 (b.picks us) LetT.toD (λ_=>True) (by walk_at"sz") (qAN rfl) trivial (λx hx C=>.mk ?_) ?_)
 ·walk_at"e"
  refine qA1 (lv:=1) rfl (by simp only[Cx.comp,cxOf];omega) (qD0 (lv:=0) ?_)
  walk_at"e"
  cases q:refB u x
  ·walk_at"e"
   exact⟨rfl,rfl⟩
  ·unfold LetT.toD
   walk_at"e"
   exact⟨rfl,rfl⟩
 rw[show(b.picks us).filterMap (λl=>if refB u l then some (D.int l.uid)else none)=((b.picks us).filter (refB u)).map λl=>.int l.uid by
  rw[←List.filterMap_eq_map,List.filterMap_filter];rfl]
 walk_at"e1"
 walk_at"e1"
 refine qBP ?_
 walk_at"e"
 intro a na
 have nFa:=hb.sub.none na
 walk_at"e"
 refine qBA (J:=λd τ=>d= .lst ((b.picks us).map LetT.toD)∧τ=σ.set a (.list [])) rfl (by walk_at"e";exact⟨rfl,rfl⟩) ?_
 rintro d τ ⟨rfl,rfl⟩
 refine(.mk _ (λ_=>True) (qAN rfl) (λi ρ τ1=>ρ.lookup ("changed":Str)=some (.obj a)∧ρ.lookup ("box":Str)=some (.obj ab)∧ρ.lookup ("unless":Str)=some (optI u)∧ρ.lookup ("way":Str)=some (.str way)∧ρ.lookup ("flags":Str)=some (.tup (fs.map .str))∧
   ρ.lookup ("refused":Str)=some (.lst (((b.picks us).filter (refB u)).map λl=>.int l.uid))∧
   ∃bi chi,BoxAt (F.set a (.list (chi.map .int))) τ1 ab bi∧qAo u way ns bi chi ((b.picks us).drop i)=some (b',ch')∧bi.letters.length=b.letters.length∧chi.length≤i)
  (y07 rfl rfl rfl rfl rfl rfl ⟨b,[],hb.new na _,hg,rfl,Nat.le_refl _⟩) (λ_ _ _ _=>trivial) ?_ ?_)
 ·rintro i ρ1 τ1 d hd ⟨h1,h2,h3,h4,h5,h6,bi,chi,hbi,hgo,hlen,hci⟩
  rw[List.getElem?_map]at hd
  obtain⟨l,hy,rfl⟩:=Option.map_eq_some_iff.mp hd
  have hi:=(List.getElem?_eq_some_iff.mp hy).1
  have hdr:(b.picks us).drop i=l::(b.picks us).drop (i+1):=by
   rw[List.drop_eq_getElem_cons hi]
   congr 1
   exact(List.getElem?_eq_some_iff.mp hy).2
  rw[hdr,qDQ]at hgo
  have hlf:=hl l (qDU l (List.mem_of_getElem? hy))
  walk_at"e"
  refine qA1 (lv:=1) rfl (by simp only[Cx.comp,cxOf];omega) (qD0 (lv:=0) ?_)
  walk_at"e"
  cases q:refB u l <;> simp only[q,Bool.false_eq_true,if_false,if_true]at hgo
  ·walk_at"e"
   refine qA1 (lv:=6) rfl (by walk_at"lv") (qF4 (lv:=0) hlf hf hw λns' rs e1 e2=>?_)
   obtain rfl:ns=ns':=by rw[hn]at e1;injection e1
   have hrs:=qFE hlf (qAg hf.flags hn) e2
   rw[e2]at hgo
   have hgo:(match(qB0 rs).bind (bi.setF l.uid)with|none=>none|some p=>qAo u way ns p.2 (if p.1 then chi++ [l.uid]else chi) ((b.picks us).drop (i+1)))=some (b',ch'):=hgo
   walk_at"e"
   refine qA1 (lv:=6) rfl (by walk_at"lv") (qDf (lv:=0) hbi (by omega) hrs.flags (by have:=hrs.2;omega) (λns2 r b2 e3 e4 τ hb2=>?_) λk=>by rw[k]at hgo;cases hgo)
   rw[e3]at hgo
   have hgo:(match bi.setF l.uid ns2 with|none=>none|some p=>qAo u way ns p.2 (if p.1 then chi++ [l.uid]else chi) ((b.picks us).drop (i+1)))=some (b',ch'):=hgo
   rw[e4]at hgo
   have hgo:qAo u way ns b2 (if r then chi++ [l.uid]else chi) ((b.picks us).drop (i+1))=some (b',ch'):=hgo
   have hl2:=qEf e4
   walk_at"e"
   cases r <;> simp only[Bool.false_eq_true,if_false,if_true]at hgo
   ·walk_at"e"
    exact(y07 (by walk_at"nm") (by walk_at"nm") (by walk_at"nm") (by walk_at"nm") (by walk_at"nm") (by walk_at"nm") ⟨b2,chi,hb2,hgo,by omega,by omega⟩)
   ·walk_at"e"
    have hτ:τ a=some (.list (chi.map .int)):=hb2.sub _ _ (Sg.set_same _ _ _)
    refine(.mk _ _ (qB5 hτ) qAD ?_)
    unfold LetT.toD
    walk_at"e"
    refine qBQ hτ (by walk_at"sm") ?_
    walk_at"e"
    have hb3:=hb2.set (Sg.set_same _ _ _) (.list ((chi++ [l.uid]).map .int))
    rw[Sg.set_set]at hb3
    rw[List.map_append]at hb3
    refine(y07 (by walk_at"nm") (by walk_at"nm") (by walk_at"nm") (by walk_at"nm") (by walk_at"nm") (by walk_at"nm") ⟨b2,chi++ [l.uid],?_,hgo,by omega,by rw[List.length_append];exact Nat.succ_le_succ hci⟩)
    rw[List.map_append]
    exact hb3
  ·walk_at"e"
   exact(y07 (by walk_at"nm") (by walk_at"nm") (by walk_at"nm") (by walk_at"nm") (by walk_at"nm") (by walk_at"nm") ⟨bi,chi,hbi,hgo,hlen,by omega⟩)
 ·rintro ρ1 τ1 ⟨h1,h2,h3,h4,h5,h6,bi,chi,hbi,hgo,hlen,hci⟩
  rw[List.length_map,List.drop_length,qIR]at hgo
  injection hgo with hgo
  injection hgo with e1 e2
  subst e1 e2
  walk_at"e1"
  walk_at"e1"
  walk_at"e1"
  walk_at"e1"
  refine qCq ?_
  walk_at"e"
  refine(.mk a _ rfl (hbi.sub _ _ (Sg.set_same _ _ _)) ?_)
  walk_at"e"
  exact h _ (hbi.del nFa)
end
noncomputable def BoxT.forget(b:BoxT)(m:Int):Int × BoxT:=
 let bound:=if b.top < m then b.top else m
 if bound≤b.floor then(0,b)else((b.gone.length:Int) - ((b.gone.filter λp=>decide (p.2 > bound)).length:Int),{b with gone:=b.gone.filter (λp=>decide (p.2 > bound)),floor:=bound})
noncomputable def BoxT.exp1(b:BoxT)(us there:List Int):List Int × BoxT:=
 if there.isEmpty then([],b)else(there,{b with top:=b.top+1,letters:=b.letters.filter (λl=>!(pget (qAB us) l.uid).isSome),gone:=b.gone++there.map λu=>(u,b.top+1)})
noncomputable def BoxT.expunge(b:BoxT)(us:List Int):List Int × BoxT:=b.exp1 us ((b.letters.map LetT.uid).filter λu=>(pget (qAB us) u).isSome)
theorem qDc{α β:Type}(f:α→β)(p:α→Bool)(l:List α):(l.filterMap λu=>if p u then some (f u)else none)=(l.filter p).map f:=by
 rw[←List.filterMap_eq_map,List.filterMap_filter];rfl
section
theorem f_forget{b:BoxT}{m:Int}(hb:BoxAt F σ ab b)(hz:b.gone.length≤1000000)(h:∀τ,BoxAt F τ ab (b.forget m).2→Q (.int (b.forget m).1) τ):
  FN w os (lv+1) 262 [.obj ab,.int m] σ Q X:=by
 obtain⟨al,h1,h2,s,f1,f2,ne⟩:=hb.get
 have hfl:=List.length_filter_le (λp:Int × Int=>decide (p.2 > if b.top < m then b.top else m)) b.gone
 unfold BoxT.forget at h
 refine qA5 ["box","modseq"] rfl (len2 λ_ _=>rfl) λA fr L=>?_
 walk_at"e"
 refine C_min rfl ?_
 walk_at"e"
 by_cases q:(if b.top < m then b.top else m)≤b.floor
 ·rw[decide_eq_true q]
  rw[if_pos q]at h
  walk_at"e"
  exact h σ hb
 ·rw[decide_eq_false q]
  rw[if_neg q]at h
  generalize (if b.top < m then b.top else m)=bound at q h hfl ⊢
  walk_at"e"
  refine qAi (cl:=[("bound",L+1)]) (ρ':=[("bound",.int bound)]) rfl ⟨rfl,by kernel_rfl!,rfl,qAH rfl (.inl rfl) qAA,(y03 (.inl rfl) rfl rfl),trivial⟩ ?_
  refine qAG (α:=Int × Int) (λp=>if decide (p.2 > bound)then some (qBI p)else none) ?_
  walk_at"e"
  refine(y35 b.gone qBI (λ_=>True) (by walk_at"sz") (qAN rfl) trivial (λx hx C=>.mk ?_) ?_)
  ·unfold qBI
   walk_at"e"
   cases q2:decide (x.2 > bound)
   ·walk_at"e"
    exact⟨rfl,rfl⟩
   ·walk_at"e"
    exact⟨rfl,rfl⟩
  rw[show b.gone.filterMap (λp=>if decide (p.2 > bound)then some (qBI p)else none)=(b.gone.filter λp=>decide (p.2 > bound)).map qBI by
   rw[←List.filterMap_eq_map,List.filterMap_filter];rfl]
  walk_at"e"
  refine qHa (by walk_at"sm") ?_
  walk_at"e"
  refine qHa (by walk_at"sm") ?_
  rw[List.length_map,List.length_map]
  have h3:=Sg.set_same σ ab (({b with gone:=b.gone.filter λp=>decide (p.2 > bound)}:BoxT).mo al)
  walk_at"e"
  rw[Sg.set_set]
  exact h _ (BoxAt.flds (b:=b) h2 s f1 f2 ne rfl)
theorem qFv{b:BoxT}{U:D}(hU:U= .tup (us.map .int)∨U= .lst (us.map .int))(hb:BoxAt F σ ab b)(hz:b.letters.length≤1000000)(hg:b.gone.length≤1000000)(hu:us.length≤1000000)
  (h:∀τ,BoxAt F τ ab (b.expunge us).2→Q (.lst ((b.expunge us).1.map .int)) τ):FN w os (lv+2) 222 [.obj ab,U] σ Q X:=by
 refine qA5 ["box","uids"] rfl (len2 λ_ _=>rfl) λA fr L=>?_
 walk_at"e1"
 walk_at"e1"
 refine qHS λa na=>?_
 have nFa:=hb.sub.none na
 walk_at"e"
 refine qBA (J:=λd τ=>d=U∧τ=σ.set a (.dint [])) rfl (by walk_at"e";exact⟨rfl,rfl⟩) ?_
 rintro d τ ⟨rfl,rfl⟩
 refine(.mk (us.map .int) (λ_=>True) ?_ (λi ρ τ1=>ρ.lookup ("wanted":Str)=some (.obj a)∧ρ.lookup ("box":Str)=some (.obj ab)∧τ1=σ.set a (.dint (qAB (us.take i)))) (y03 rfl rfl rfl) (λ_ _ _ _=>trivial) ?_ ?_)
 ·rcases hU with rfl|rfl
  ·exact qCM rfl
  ·exact qAN rfl
 ·rintro i ρ1 τ1 d hd ⟨h1,h2,rfl⟩
  rw[List.getElem?_map]at hd
  obtain⟨y,hy,rfl⟩:=Option.map_eq_some_iff.mp hd
  walk_at"e"
  refine I_dI (Sg.set_same _ _ _) (by have:=qBV (us.take i);rw[List.length_take]at this;unfold sizeLine;omega) ?_
  rw[Sg.set_set]
  walk_at"e"
  refine(y03 (by walk_at"nm") (by walk_at"nm") ?_)
  rw[List.take_add_one,hy,Option.toList_some,qDR]
 ·rintro ρ1 τ1 ⟨h1,h2,rfl⟩
  rw[List.length_map,List.take_length]
  clear hU
  have hb1:BoxAt (F.set a (.dint (qAB us))) (σ.set a (.dint (qAB us))) ab b:=hb.new na _
  have ha:(σ.set a (.dint (qAB us))) a=some (.dint (qAB us)):=Sg.set_same _ _ _
  obtain⟨al,k1,k2,s,f1,f2,ne⟩:=hb1.get
  generalize hσ1:σ.set a (.dint (qAB us))=σ1 at hb1 ha k1 k2 s ⊢
  clear hσ1
  walk_at"e"
  refine qAi (cl:=[("wanted",L+1)]) (ρ':=[("wanted",.obj a)]) rfl ⟨rfl,by kernel_rfl!,rfl,qAH rfl (.inl rfl) qAA,(y03 (.inl rfl) rfl (by walk_at"nm")),trivial⟩ ?_
  refine qAG (α:=Int) (λu=>if(pget (qAB us) u).isSome then some (.int u)else none) ?_
  walk_at"e"
  refine(.mk _ _ (qAQ (f:=167) k1) (qAJ rfl) ?_)
  walk_at"e"
  refine qA1 (lv:=1) rfl (by walk_at"lv") (qEO (lv:=0) hb1 hz ?_)
  refine(y35 (b.letters.map LetT.uid) .int (λ_=>True) (by walk_at"sm") (qAN rfl) trivial (λx hx C=>.mk ?_) ?_)
  ·walk_at"e"
   refine O_inI ha ?_
   walk_at"e"
   cases q:(pget (qAB us) x).isSome
   ·walk_at"e"
    exact⟨rfl,rfl⟩
   ·walk_at"e"
    exact⟨rfl,rfl⟩
  rw[qDc D.int (λu=>(pget (qAB us) u).isSome)]
  have htl:((b.letters.map LetT.uid).filter λu=>(pget (qAB us) u).isSome).length≤1000000:=Nat.le_trans (List.length_filter_le _ _) (by rw[List.length_map];exact hz)
  have hfl:(b.letters.filter λl=>!(pget (qAB us) l.uid).isSome).length≤1000000:=Nat.le_trans (List.length_filter_le _ _) hz
  unfold BoxT.expunge at h
  generalize ((b.letters.map LetT.uid).filter λu=>(pget (qAB us) u).isSome)=th at h htl ⊢
  walk_at"e"
  refine qAR ?_
  walk_at"e"
  refine O_eqL0 ?_
  rw[show(th.map D.int).isEmpty=th.isEmpty by cases th <;> rfl]
  walk_at"e"
  unfold BoxT.exp1 at h
  cases q:th.isEmpty <;> simp only[q,Bool.false_eq_true,if_false,if_true]at h
  ·walk_at"e"
   refine qA1 (lv:=1) rfl (by walk_at"lv") (qEy (lv:=0) hb1 λτ hb2=>?_)
   obtain⟨al2,j1,j2,s2,g1,g2,ne2⟩:=hb2.get
   have ha2:τ a=some (.dint (qAB us)):=s2 _ _ (Sg.set_same _ _ _)
   walk_at"e1"
   refine qAT ?_
   refine WE_CompT (cl:=[("wanted",L+1)]) (ρ':=[("wanted",.obj a)]) ⟨rfl,by kernel_rfl!,rfl,qAH rfl (.inl rfl) qAA,(y03 (.inl rfl) rfl (by walk_at"nm")),trivial⟩ ?_
   refine qAG (α:=LetT) (λl=>if !(pget (qAB us) l.uid).isSome then some l.toD else none) ?_
   walk_at"e"
   refine(y35 b.letters LetT.toD _ (by walk_at"sz") (qDI rfl j2) j2 (λx hx C=>.mk ?_) ?_)
   ·unfold LetT.toD
    walk_at"e"
    refine O_ninI ha2 ?_
    walk_at"e"
    cases q:(!(pget (qAB us) x.uid).isSome)
    ·walk_at"e"
     exact⟨rfl,rfl⟩
    ·walk_at"e"
     exact⟨rfl,rfl⟩
   rw[qDc LetT.toD (λl=>!(pget (qAB us) l.uid).isSome)]
   intro al3 n3
   have ne3:ab≠al3:=λe=>by rw[←e,j1]at n3;cases n3
   walk_at"e"
   have j3:(τ.set al3 (.list ((b.letters.filter λl=>!(pget (qAB us) l.uid).isSome).map LetT.toD))) ab=some (({b with top:=b.top+1}:BoxT).mo al2):=by rw[Sg.set_ne _ _ ne3];exact j1
   refine(.mk _ _ _ rfl j3 (by kernel_rfl!) rfl ?_)
   have j4:=Sg.set_same (τ.set al3 (.list ((b.letters.filter λl=>!(pget (qAB us) l.uid).isSome).map LetT.toD))) ab (({b with top:=b.top+1,letters:=b.letters.filter λl=>!(pget (qAB us) l.uid).isSome}:BoxT).mo al3)
   change STs _ _ _ ((τ.set al3 (.list ((b.letters.filter λl=>!(pget (qAB us) l.uid).isSome).map LetT.toD))).set ab (({b with top:=b.top+1,letters:=b.letters.filter λl=>!(pget (qAB us) l.uid).isSome}:BoxT).mo al3)) _ _ _
   walk_at"e"
   refine qAO (cl:=[("modseq",L+2)]) (ρ':=[("modseq",.int (b.top+1))]) ⟨rfl,by kernel_rfl!,rfl,qAH rfl (.inl rfl) qAA,(y03 (.inl rfl) rfl (by walk_at"nm")),trivial⟩ ?_
   refine qAG (α:=Int) (λu=>some (qBI (u,b.top+1))) ?_
   walk_at"e"
   refine(y35 th .int (λ_=>True) (by walk_at"sz") (qAN rfl) trivial (λx hx C=>.mk ?_) ?_)
   ·walk_at"e"
    exact⟨rfl,rfl⟩
   rw[show th.filterMap (λu=>some (qBI (u,b.top+1)))=(th.map λu=>(u,b.top+1)).map qBI by rw[List.map_map,←List.filterMap_eq_map];rfl]
   refine O_addL (by simp only[List.length_map];unfold sizeLine;omega) ?_
   rw[←List.map_append]
   walk_at"e"
   rw[Sg.set_set]
   refine h _ (BoxAt.weak (F:=F.set a (.dint (qAB us))) (.mk' (al:=al3) (Sg.set_same _ _ _) ?_ ((s2.setN (s2.none n3) _).setN g1 _) g1 (s2.none n3)) (Sg.sub_set nFa))
   rw[Sg.set_ne _ _ ne3.symm,Sg.set_same]
  ·walk_at"e"
   refine qAR ?_
   walk_at"e"
   exact h σ1 (hb1.weak (Sg.sub_set nFa))
end
noncomputable def qAE:BoxT→List (Int × Int)→List LetT→BoxT × List (Int × Int)
 |g,ps,[]=>(g,ps)
 |g,ps,l::r=>qAE (g.add l.octets ((qB0 l.flags).getD []) l.instant) (ps++ [(l.uid,g.next_uid)]) r
theorem copyGo_n{g:BoxT}{ps:List (Int × Int)}:qAE g ps []=(g,ps):=rfl
theorem qHP{g:BoxT}{ps:List (Int × Int)}{l:LetT}{r:List LetT}:qAE g ps (l::r)=qAE (g.add l.octets ((qB0 l.flags).getD []) l.instant) (ps++ [(l.uid,g.next_uid)]) r:=rfl
noncomputable def BoxT.sel(b:BoxT)(us:List Int):List LetT:=(qCG us).filterMap b.letterT
section
theorem qCC{F1:Sg}{ag:Addr}{b g:BoxT}(hb:BoxAt F1 σ ab b)(hg:BoxAt F σ ag g)(hz:b.letters.length≤1000000)(hzg:g.letters.length≤900000)(hu:us.length < 64)
  (hl:∀l∈b.letters,FlagsOk l.flags)(h:∀τ,BoxAt F τ ag (qAE g [] (b.sel us)).1→Q (.lst ((qAE g [] (b.sel us)).2.map qBI)) τ):
  FN w os (lv+7) 227 [.obj ab,.lst (us.map .int),.obj ag] σ Q X:=by
 obtain⟨al,k1,k2,s,f1,f2,ne⟩:=hb.get
 have hsl:(qCG us).length=us.length:=by unfold qCG;rw[List.length_mergeSort]
 refine qA5 ["box","uids","goal"] rfl (len3 λ_ _ _=>rfl) λA fr L=>?_
 walk_at"e1"
 walk_at"e1"
 refine qBP ?_
 walk_at"e"
 intro a na
 have nFa:=hg.sub.none na
 have hb1:=hb.new na (.list [])
 have k1':(σ.set a (.list [])) ab=some (b.mo al):=by rw[Sg.set_ne _ _ (λe=>by rw[e,na]at k1;cases k1)];exact k1
 walk_at"e"
 refine qBA (J:=λd τ=>d= .lst ((qCG us).map λu=>optD (b.letterT u))∧τ=σ.set a (.list [])) rfl ?_ ?_
 ·refine qAO (cl:=[("box",L+1)]) (ρ':=[("box",.obj ab)]) ⟨rfl,by kernel_rfl!,rfl,qAH rfl (.inl rfl) qAA,(y03 (.inl rfl) rfl rfl),trivial⟩ ?_
  refine qAG (α:=Int) (λu=>some (optD (b.letterT u))) ?_
  walk_at"e"
  refine qFI hu ?_
  refine(y35 (qCG us) .int (λ_=>True) (by walk_at"sz") (qAN rfl) trivial (λx hx C=>.mk ?_) ?_)
  ·walk_at"e"
   refine(.mk _ _ (qAQ (f:=162) k1') (qAJ rfl) ?_)
   walk_at"e"
   exact qA1 (lv:=2) rfl (by simp only[Cx.comp,cxOf];omega) (qD1 (lv:=0) hb1 hz ⟨rfl,rfl⟩)
  ·exact⟨by rw[←List.filterMap_eq_map];rfl,rfl⟩
 rintro d τ ⟨rfl,rfl⟩
 refine(.mk _ (λ_=>True) (qAN rfl) (λi ρ τ1=>ρ.lookup ("pairs":Str)=some (.obj a)∧ρ.lookup ("goal":Str)=some (.obj ag)∧
   ∃gi psi,BoxAt (F.set a (.list (psi.map qBI))) τ1 ag gi∧qAE gi psi (((qCG us).drop i).filterMap b.letterT)=qAE g [] (b.sel us)∧gi.letters.length≤g.letters.length+i∧psi.length≤i)
  (y03 rfl rfl ⟨g,[],hg.new na _,rfl,Nat.le_refl _,Nat.le_refl _⟩) (λ_ _ _ _=>trivial) ?_ ?_)
 ·rintro i ρ1 τ1 d hd ⟨h1,h2,gi,psi,hgi,hgo,hlen,hci⟩
  rw[List.getElem?_map]at hd
  obtain⟨y,hy,rfl⟩:=Option.map_eq_some_iff.mp hd
  have hi:=(List.getElem?_eq_some_iff.mp hy).1
  have hdr:(qCG us).drop i=y::(qCG us).drop (i+1):=by
   rw[List.drop_eq_getElem_cons hi]
   congr 1
   exact(List.getElem?_eq_some_iff.mp hy).2
  rw[hdr,List.filterMap_cons]at hgo
  walk_at"e"
  cases e:b.letterT y with
  |none=>
   rw[e]at hgo
   unfold optD
   walk_at"e"
   exact(y03 (by walk_at"nm") (by walk_at"nm") ⟨gi,psi,hgi,hgo,by omega,by omega⟩)
  |some l=>
   rw[e]at hgo
   have hlf:=hl l (qCI e)
   obtain⟨ns,en⟩:=qAv hlf.1
   have hgo:qAE (gi.add l.octets ((qB0 l.flags).getD []) l.instant) (psi++ [(l.uid,gi.next_uid)]) (((qCG us).drop (i+1)).filterMap b.letterT)=qAE g [] (b.sel us):=hgo
   rw[en]at hgo
   unfold optD LetT.toD
   walk_at"e"
   refine qA1 (lv:=6) rfl (by walk_at"lv") (qD2 (lv:=0) hgi (by omega) hlf.flags (by have:=hlf.2;omega) (λns' en' τ hτ=>?_) λk=>by rw[en]at k;cases k)
   obtain rfl:ns=ns':=by rw[en]at en';injection en'
   have hτa:τ a=some (.list (psi.map qBI)):=hτ.sub _ _ (Sg.set_same _ _ _)
   unfold LetT.toD
   walk_at"e"
   refine(.mk _ _ (qB5 hτa) qAD ?_)
   walk_at"e"
   refine qBQ hτa (by walk_at"sm") ?_
   walk_at"e"
   have hb3:=hτ.set (Sg.set_same _ _ _) (.list ((psi++ [(l.uid,gi.next_uid)]).map qBI))
   rw[Sg.set_set,List.map_append]at hb3
   refine(y03 (by walk_at"nm") (by walk_at"nm") ⟨_,psi++ [(l.uid,gi.next_uid)],?_,hgo,?_,by rw[List.length_append];exact Nat.succ_le_succ hci⟩)
   ·rw[List.map_append];exact hb3
   ·unfold BoxT.add;simp only[List.length_append,List.length_cons,List.length_nil];omega
 ·rintro ρ1 τ1 ⟨h1,h2,gi,psi,hgi,hgo,hlen,hci⟩
  rw[List.length_map,List.drop_length,List.filterMap_nil,copyGo_n]at hgo
  rw[←hgo]at h
  walk_at"e1"
  walk_at"e1"
  refine qCq ?_
  walk_at"e"
  refine(.mk a _ rfl (hgi.sub _ _ (Sg.set_same _ _ _)) ?_)
  exact h _ (hgi.del nFa)
theorem qCA{F1:Sg}{ag:Addr}{b g:BoxT}(hb:BoxAt F1 σ ab b)(hg:BoxAt F σ ag g)(hz:b.letters.length≤1000000)(hzg:g.letters.length≤900000)(hu:us.length < 64)
  (hl:∀l∈b.letters,FlagsOk l.flags)
  (h:∀τ,BoxAt F τ ag (qAE g [] (b.sel us)).1→∃F2 b2,BoxAt F2 τ ab b2∧b2.letters.length≤1000000∧b2.gone.length≤1000000∧(qAE g [] (b.sel us)).2.length≤1000000∧
   ∀υ,BoxAt F2 υ ab (b2.expunge ((qAE g [] (b.sel us)).2.map (·.1))).2→Q (.lst ((qAE g [] (b.sel us)).2.map qBI)) υ):
  FN w os (lv+8) 232 [.obj ab,.lst (us.map .int),.obj ag] σ Q X:=by
 refine qA5 ["box","uids","goal"] rfl (len3 λ_ _ _=>rfl) λA fr L=>?_
 walk_at"e"
 refine qA1 (lv:=7) rfl (by walk_at"lv") (qCC (lv:=0) hb hg hz hzg hu hl λτ hτ=>?_)
 obtain⟨F2,b2,hb2,z1,z2,z3,fin⟩:=h τ hτ
 generalize (qAE g [] (b.sel us)).2=ps at z3 fin ⊢
 walk_at"e"
 refine qAO (cl:=[]) (ρ':=[]) ⟨rfl,by kernel_rfl!,rfl,qAA,trivial⟩ ?_
 refine qAG (α:=Int × Int) (λp=>some (.int p.1)) ?_
 walk_at"e"
 refine(y35 ps qBI (λ_=>True) (by walk_at"sz") (qAN rfl) trivial (λx hx C=>.mk ?_) ?_)
 ·unfold qBI
  walk_at"e"
  exact qBK (k:=0) rfl rfl (by decide) ⟨rfl,rfl⟩
 ·rw[show ps.filterMap (λp=>some (D.int p.1))=(ps.map (·.1)).map .int by rw[List.map_map,←List.filterMap_eq_map];rfl]
  walk_at"e"
  refine qA1 (lv:=2) rfl (by walk_at"lv") (qFv (lv:=0) (.inr rfl) hb2 z1 z2 (by rw[List.length_map];exact z3) λυ hυ=>?_)
  walk_at"e"
  exact fin υ hυ
theorem qAV{b:BoxT}{n:Int}(hb:BoxAt F σ ab b)(h:¬b.top+n > 9223372036854775807→Q .none σ)(hx:b.top+n > 9223372036854775807→X 76 σ):FN w os (lv+4) 511 [.obj ab,.int n] σ Q X:=by
 obtain⟨al,k1,k2,s,f1,f2,ne⟩:=hb.get
 refine qA5 ["box","count"] rfl (len2 λ_ _=>rfl) λA fr L=>?_
 walk_at"e"
 by_cases q:b.top+n > 9223372036854775807
 ·rw[decide_eq_true q]
  walk_at"e"
  walk_at"x"
  exact hx q
 ·rw[decide_eq_false q]
  walk_at"e"
  exact h q
noncomputable def BoxT.room(b:BoxT)(n:Int):Bool:=!decide (b.top+(n+1) > 9223372036854775807) && !decide (b.next_uid+n - 1 > 4294967295)
theorem qDh{b:BoxT}{n:Int}(hb:BoxAt F σ ab b)(h:b.room n=true→Q .none σ)(hx:b.room n=false→X 76 σ):FN w os (lv+5) 518 [.obj ab,.int n] σ Q X:=by
 obtain⟨al,k1,k2,s,f1,f2,ne⟩:=hb.get
 unfold BoxT.room at h hx
 refine qA5 ["box","count"] rfl (len2 λ_ _=>rfl) λA fr L=>?_
 walk_at"e"
 refine qA1 (lv:=4) rfl (by walk_at"lv") (qAV (lv:=0) hb (λq=>?_) λq=>hx (by rw[decide_eq_true q];rfl))
 rw[decide_eq_false q]at h hx
 walk_at"e"
 cases q2:decide (b.next_uid+n - 1 > 4294967295) <;> rw[q2]at h hx
 ·walk_at"e"
  exact h rfl
 ·walk_at"e"
  walk_at"x"
  exact hx rfl
end
structure StoreT where
 boxes:List (Str × BoxT)
 subs:List Str
 nextv:Int
variable {S:StoreT}
noncomputable def StoreT.mo(S:StoreT)(ad:Addr):MO:=.inst 462 [("boxes",.obj ad),("subscribed",.lst (S.subs.map .str)),("next_validity",.int S.nextv)]
section
variable {K V W:Type} [DecidableEq K]
noncomputable def mapV(f:V→W)(l:List (K × V)):List (K × W):=l.map λp=>(p.1,f p.2)
theorem qAd(f:V→W)(l:List (K × V))(k:K):pget (mapV f l) k=(pget l k).map f:=by
 unfold pget mapV
 rw[List.find?_map,Option.map_map,Option.map_map]
 rfl
theorem any_map(f:V→W)(l:List (K × V))(k:K):(mapV f l).any (λkv=>kv.1=k)=l.any λkv=>kv.1=k:=by
 unfold mapV;rw[List.any_map];rfl
theorem qBe(f:V→W)(l:List (K × V))(k:K)(v:V):pset (mapV f l) k (f v)=mapV f (pset l k v):=by
 unfold pset
 rw[any_map]
 split
 ·unfold mapV
  rw[List.map_map,List.map_map]
  apply List.map_congr_left
  intro p _
  show(if p.1=k then _ else _)=_
  by_cases q:p.1=k
  ·simp[q]
  ·simp[q]
 ·unfold mapV;rw[List.map_append];rfl
theorem qC1(f:V→W)(l:List (K × V))(k:K):pdel (mapV f l) k=mapV f (pdel l k):=by
 unfold pdel mapV
 rw[List.filter_map]
 rfl
theorem qHD(f:V→W)(l:List (K × V)):(mapV f l).map (·.1)=l.map (·.1):=by unfold mapV;rw[List.map_map];rfl
theorem qC0{l:List (K × V)}{k:K}{v:V}(nd:(l.map (·.1)).Nodup)(e:pget l k=some v):∃l1 l2,l=l1++(k,v)::l2∧(∀p∈l1,p.1≠k)∧∀p∈l2,p.1≠k:=by
 unfold pget at e
 obtain⟨p,h,rfl⟩:=Option.map_eq_some_iff.mp e
 obtain⟨h1,l1,l2,rfl,h2⟩:=List.find?_eq_some_iff_append.mp h
 have hk:p.1=k:=by simpa using h1
 subst hk
 refine(y23 l1 l2 rfl (λq hq=>by simpa using h2 q hq) (λq hq e=>?_))
 rw[List.map_append,List.map_cons,List.nodup_append]at nd
 exact(List.nodup_cons.mp nd.2.1).1 (e▸List.mem_map_of_mem hq)
theorem qFZ{l:List (K × V)}{k:K}{v:V}(h:∀p∈l,p.1≠k):(l.map λkv=>if kv.1=k then(kv.1,v)else kv)=l:=by
 conv=>rhs;rw[←List.map_id l]
 exact List.map_congr_left λp hp=>by rw[if_neg (h p hp)];rfl
theorem qCb{l1 l2:List (K × V)}{k:K}{v v':V}(h1:∀p∈l1,p.1≠k)(h2:∀p∈l2,p.1≠k):pset (l1++(k,v)::l2) k v'=l1++(k,v')::l2:=by
 unfold pset
 rw[if_pos (by simp),List.map_append,List.map_cons,qFZ h1,qFZ h2,if_pos rfl]
theorem qCc{l1 l2:List (K × V)}{k:K}{v:V}(h1:∀p∈l1,p.1≠k)(h2:∀p∈l2,p.1≠k):pdel (l1++(k,v)::l2) k=l1++l2:=by
 unfold pdel
 rw[List.filter_append,List.filter_cons_of_neg (by simp),List.filter_eq_self.mpr (λp hp=>by simpa using h1 p hp),List.filter_eq_self.mpr (λp hp=>by simpa using h2 p hp)]
theorem pget_none{l:List (K × V)}{k:K}:pget l k=none ↔ ∀p∈l,p.1≠k:=by
 unfold pget
 rw[Option.map_eq_none_iff,List.find?_eq_none]
 simp
theorem qDD{l:List (K × V)}{k:K}{v:V}(e:pget l k=none):pset l k v=l++ [(k,v)]:=by
 unfold pset
 rw[if_neg]
 intro h
 obtain⟨p,hp,q⟩:=List.any_eq_true.mp h
 exact pget_none.mp e p hp (by simpa using q)
theorem qAY{l:List (K × V)}{k:K}{v:V}(e:pget l k=some v):(k,v)∈l:=by
 unfold pget at e
 obtain⟨p,h,rfl⟩:=Option.map_eq_some_iff.mp e
 have h1:=List.find?_some h
 have hk:p.1=k:=by simpa using h1
 have:=List.mem_of_find?_eq_some h
 rw[←hk];exact this
end
structure StW(F σ:Sg)(a:Addr)(L:List (Str × Addr))(S:StoreT)(G:Sg)(ad:Addr)(P:List (Str × Slot)):Prop where
 fam:Fam G σ (P.map (·.2))
 sub:F.Sub G
 st:G a=some (S.mo ad)
 dc:G ad=some (.dstr (mapV (λs:Slot=>.obj s.ab) P))
 fa:F a=none
 fd:F ad=none
 nd:(P.map (·.1)).Nodup
 hb:mapV Slot.b P=S.boxes
 hl:mapV Slot.ab P=L
def StAt(F σ:Sg)(a:Addr)(L:List (Str × Addr))(S:StoreT):Prop:=∃G ad P,StW F σ a L S G ad P
theorem StW.ne{ad:Addr}{G:Sg}{P:List (Str × Slot)}(h:StW F σ a L S G ad P):a≠ad:=λe=>by
 have:=h.st;rw[e,h.dc]at this;unfold StoreT.mo at this;cases this
theorem StAt.cells(h:StAt F σ a L S):∃ad,σ a=some (S.mo ad)∧σ ad=some (.dstr (mapV (.obj ·) L))∧a≠ad:=by
 obtain⟨G,ad,P,w⟩:=h
 refine(y13 ad (w.fam.sub _ _ w.st) ?_ w.ne)
 rw[w.fam.sub _ _ w.dc,←w.hl]
 unfold mapV
 rw[List.map_map]
 rfl
theorem StAt.subF(h:StAt F σ a L S):F.Sub σ:=x3_1 h λ_ _ _ w=>w.sub.trans w.fam.sub
theorem StAt.fa(h:StAt F σ a L S):F a=none:=x3_1 h λ_ _ _ w=>w.fa
theorem StAt.keys(h:StAt F σ a L S):L.map (·.1)=S.boxes.map (·.1)∧(L.map (·.1)).Nodup:=by
 obtain⟨G,ad,P,w⟩:=h
 rw[←w.hb,←w.hl,qHD,qHD]
 exact⟨rfl,w.nd⟩
theorem StAt.box(h:StAt F σ a L S){k:Str}{b:BoxT}(e:pget S.boxes k=some b):
  ∃ab,pget L k=some ab∧∃G,BoxAt G σ ab b∧F.Sub G∧∀τ b',BoxAt G τ ab b'→StAt F τ a L {S with boxes:=pset S.boxes k b'}:=by
 obtain⟨G,ad,P,w⟩:=h
 rw[←w.hb,qAd]at e
 obtain⟨s,es,rfl⟩:=Option.map_eq_some_iff.mp e
 obtain⟨P1,P2,rfl,n1,n2⟩:=qC0 w.nd es
 have hp:((P1++(k,s)::P2).map (·.2)).Perm ([s]++(P1.map (·.2)++P2.map (·.2))):=by
  rw[List.map_append,List.map_cons];exact List.perm_middle
 obtain⟨f1,f2⟩:=(w.fam.perm hp).split
 refine(y12 s.ab (by rw[←w.hl,qAd,es];rfl) ⟨qBl σ [s],⟨s.al,f1⟩,w.sub.trans f2.sub,λτ b' o1'=>x1_1 o1' λal f3=>(y31 G ad (P1++(k,⟨s.ab,al,b'⟩)::P2) ?_)⟩)
 have f4:=f3.join f2
 refine⟨f4.perm ?_,w.sub,w.st,?_,w.fa,w.fd,?_,?_,?_⟩
 ·rw[List.map_append,List.map_cons];exact(List.perm_middle (a:=(⟨s.ab,al,b'⟩:Slot)) (l₁:=P1.map (·.2)) (l₂:=P2.map (·.2))).symm
 ·rw[w.dc];unfold mapV;simp
 ·have:=w.nd;simpa using this
 ·rw[←w.hb]
  rw[show(b':BoxT)=Slot.b ⟨s.ab,al,b'⟩ from rfl,qBe,qCb n1 n2]
 ·rw[←w.hl];unfold mapV;simp
theorem StAt.weak{F':Sg}(h:StAt F σ a L S)(k:F'.Sub F):StAt F' σ a L S:=
 x3_1 h λG ad P w=>(y31 G ad P ⟨w.fam,k.trans w.sub,w.st,w.dc,k.none w.fa,k.none w.fd,w.nd,w.hb,w.hl⟩)
theorem StAt.set(h:StAt F σ a L S){x:Addr}{o:MO}(e:F x=some o)(o':MO):StAt (F.set x o') (σ.set x o') a L S:=by
 obtain⟨G,ad,P,w⟩:=h
 have n1:a≠x:=λq=>by rw[←q,w.fa]at e;cases e
 have n2:ad≠x:=λq=>by rw[←q,w.fd]at e;cases e
 exact(y31 (G.set x o') ad P ⟨w.fam.set (w.sub _ _ e) o',w.sub.set x o',by rw[Sg.set_ne _ _ n1];exact w.st,by rw[Sg.set_ne _ _ n2];exact w.dc,by rw[Sg.set_ne _ _ n1];exact w.fa,by rw[Sg.set_ne _ _ n2];exact w.fd,w.nd,w.hb,w.hl⟩)
theorem StAt.new(h:StAt F σ a L S){x:Addr}(e:σ x=none)(o':MO):StAt (F.set x o') (σ.set x o') a L S:=by
 obtain⟨G,ad,P,w⟩:=h
 have n1:a≠x:=λq=>by have:=w.fam.sub _ _ w.st;rw[q,e]at this;cases this
 have n2:ad≠x:=λq=>by have:=w.fam.sub _ _ w.dc;rw[q,e]at this;cases this
 exact(y31 (G.set x o') ad P ⟨w.fam.new e o',w.sub.set x o',by rw[Sg.set_ne _ _ n1];exact w.st,by rw[Sg.set_ne _ _ n2];exact w.dc,by rw[Sg.set_ne _ _ n1];exact w.fa,by rw[Sg.set_ne _ _ n2];exact w.fd,w.nd,w.hb,w.hl⟩)
theorem StAt.newN(h:StAt F σ a L S){x:Addr}(e:σ x=none)(o':MO):StAt F (σ.set x o') a L S:=(h.new e o').weak (Sg.sub_set (h.subF.none e))
theorem StAt.del{x:Addr}{o:MO}(h:StAt (F.set x o) σ a L S)(n:F x=none):StAt F (σ.del x) a L S:=by
 obtain⟨G,ad,P,w⟩:=h
 have n1:a≠x:=λq=>by have:=w.fa;rw[q,Sg.set_same]at this;cases this
 have n2:ad≠x:=λq=>by have:=w.fd;rw[q,Sg.set_same]at this;cases this
 have hGx:G x=some o:=w.sub _ _ (Sg.set_same _ _ _)
 have nex:∀p∈P.map (·.2),p.ab≠x∧p.al≠x:=λp m=>by
  have:=w.fam.fr p m
  constructor
  ·intro q;rw[q,hGx]at this;cases this.1
  ·intro q;rw[q,hGx]at this;cases this.2
 have hd:∀{y:Addr} {τ:Sg},y≠x→τ.del x y=τ y:=λhy=>by unfold Sg.del;rw[if_neg hy]
 refine(y31 (G.del x) ad P ⟨⟨λy p e=>?_,λp m=>?_,w.fam.nb,w.fam.nl,λp m=>?_⟩,λy p e=>?_,by rw[hd n1];exact w.st,by rw[hd n2];exact w.dc,?_,?_,w.nd,w.hb,w.hl⟩)
 ·unfold Sg.del at e ⊢
  split at e
  ·cases e
  ·rename_i q;rw[if_neg q];exact w.fam.sub _ _ e
 ·have:=w.fam.ok p m
  unfold Slot.ok
  rw[hd (nex p m).1,hd (nex p m).2];exact this
 ·rw[hd (nex p m).1,hd (nex p m).2];exact w.fam.fr p m
 ·have hy:y≠x:=λq=>by rw[q,n]at e;cases e
  rw[hd hy]
  exact w.sub _ _ (by rw[Sg.set_ne _ _ hy];exact e)
 ·have:=w.fa;rw[Sg.set_ne _ _ n1]at this;exact this
 ·have:=w.fd;rw[Sg.set_ne _ _ n2]at this;exact this
theorem StAt.flds{ad:Addr}{S':StoreT}(h:StAt F σ a L S)(ha:σ a=some (S.mo ad))(e:S'.boxes=S.boxes):StAt F (σ.set a (S'.mo ad)) a L S':=by
 obtain⟨G,ad',P,w⟩:=h
 have:ad'=ad:=by
  have:=w.fam.sub _ _ w.st;rw[ha]at this;unfold StoreT.mo at this;injection this with this;injection this with _ this
  injection this with this;injection this with _ this;injection this with this;exact this.symm
 subst this
 refine(y31 (G.set a (S'.mo ad')) ad' P ⟨w.fam.set w.st _,(w.sub.setN w.fa _),Sg.set_same _ _ _,by rw[Sg.set_ne _ _ w.ne.symm];exact w.dc,w.fa,w.fd,w.nd,by rw[e];exact w.hb,w.hl⟩)
theorem StAt.add{ad:Addr}{k:Str}{b:BoxT}(h:StAt F σ a L S)(ha:σ a=some (S.mo ad))(hb:BoxAt σ τ ab b)(e:pget S.boxes k=none):
  StAt F (τ.set ad (.dstr (pset (mapV (.obj ·) L) k (.obj ab)))) a (pset L k ab) {S with boxes:=pset S.boxes k b}:=by
 obtain⟨G,ad',P,w⟩:=h
 have:ad'=ad:=by
  have:=w.fam.sub _ _ w.st;rw[ha]at this;unfold StoreT.mo at this;injection this with this;injection this with _ this
  injection this with this;injection this with _ this;injection this with this;exact this.symm
 subst this
 obtain⟨al,f⟩:=hb
 have eP:pget P k=none:=by
  rw[←w.hb,qAd]at e
  exact Option.map_eq_none_iff.mp e
 have ed:mapV (λs:Slot=>D.obj s.ab) (pset P k ⟨ab,al,b⟩)=pset (mapV (.obj ·) L) k (.obj ab):=by
  rw[←w.hl,show mapV (D.obj ·) (mapV Slot.ab P)=mapV (λs:Slot=>D.obj s.ab) P by unfold mapV;rw[List.map_map];rfl]
  exact(qBe (λs:Slot=>D.obj s.ab) P k ⟨ab,al,b⟩).symm
 have f4:=(f.join w.fam).set w.dc (.dstr (pset (mapV (.obj ·) L) k (.obj ab)))
 refine(y31 (G.set ad' (.dstr (pset (mapV (.obj ·) L) k (.obj ab)))) ad' (pset P k ⟨ab,al,b⟩) ⟨?_,w.sub.setN w.fd _,by rw[Sg.set_ne _ _ w.ne];exact w.st,by rw[Sg.set_same,ed],w.fa,w.fd,?_,?_,?_⟩)
 ·refine f4.perm ?_
  rw[qDD eP,List.map_append]
  exact List.perm_append_comm
 ·rw[qDD eP,List.map_append,List.nodup_append]
  exact(y03 w.nd (by simp) (λx hx y hy q=>by
   obtain⟨p,hp,rfl⟩:=List.mem_map.mp hx
   have:y=k:=by simpa using hy
   exact pget_none.mp eP p hp (q.trans this)))
 ·rw[←w.hb];exact(qBe Slot.b P k ⟨ab,al,b⟩).symm
 ·rw[←w.hl];exact(qBe Slot.ab P k ⟨ab,al,b⟩).symm
theorem StAt.pop{ad:Addr}{k:Str}(h:StAt F σ a L S)(ha:σ a=some (S.mo ad)):
  StAt F (σ.set ad (.dstr (pdel (mapV (.obj ·) L) k))) a (pdel L k) {S with boxes:=pdel S.boxes k}:=by
 obtain⟨G,ad',P,w⟩:=h
 have:ad'=ad:=by
  have:=w.fam.sub _ _ w.st;rw[ha]at this;unfold StoreT.mo at this;injection this with this;injection this with _ this
  injection this with this;injection this with _ this;injection this with this;exact this.symm
 subst this
 have ed:mapV (λs:Slot=>D.obj s.ab) (pdel P k)=pdel (mapV (.obj ·) L) k:=by
  rw[←w.hl,show mapV (D.obj ·) (mapV Slot.ab P)=mapV (λs:Slot=>D.obj s.ab) P by unfold mapV;rw[List.map_map];rfl]
  exact(qC1 (λs:Slot=>D.obj s.ab) P k).symm
 have hs:(pdel P k).Sublist P:=List.filter_sublist
 have f4:=(w.fam.set w.dc (.dstr (pdel (mapV (.obj ·) L) k))).sublist (hs.map (·.2))
 refine(y31 (G.set ad' (.dstr (pdel (mapV (.obj ·) L) k))) ad' (pdel P k) ⟨f4,w.sub.setN w.fd _,by rw[Sg.set_ne _ _ w.ne];exact w.st,by rw[Sg.set_same,ed],w.fa,w.fd,w.nd.sublist (hs.map _),?_,?_⟩)
 ·rw[←w.hb];exact(qC1 Slot.b P k).symm
 ·rw[←w.hl];exact(qC1 Slot.ab P k).symm
theorem StAt.swap{F₀:Sg}{b:Addr}{T:StoreT}(h:StAt F σ a L S)(k:StAt F₀ F b M T):∃F',StAt F' σ b M T∧StAt F₀ F' a L S:=by
 obtain⟨G,ad,P,w⟩:=h
 obtain⟨G2,bd,P2,v⟩:=k
 have hσ:F.Sub σ:=w.sub.trans w.fam.sub
 have h2:=v.fam.sub
 let own:Addr→Bool:=λx=>x==b || x==bd || (P2.map (·.2)).any λp=>p.ab==x || p.al==x
 let F':Sg:=λx=>if own x then none else σ x
 have hF':F'.Sub σ:=λx o e=>by
  show σ x=_
  have e:(if own x then none else σ x)=some o:=e
  split at e
  ·cases e
  ·exact e
 have out:∀{x},own x=false→F' x=σ x:=λ{x} q=>by show(if own x then none else σ x)=_;rw[q];rfl
 have inn:∀{x},own x=true→F' x=none:=λ{x} q=>by show(if own x then none else σ x)=_;rw[q];rfl
 have own_in:∀{x},own x=true→∃o,F x=some o:=λ{x} q=>by
  simp only[own,Bool.or_eq_true,beq_iff_eq,List.any_eq_true]at q
  rcases q with(rfl|rfl)| ⟨p,m,q⟩
  ·exact⟨_,h2 _ _ v.st⟩
  ·exact⟨_,h2 _ _ v.dc⟩
  ·have:=v.fam.ok p m
   rcases q with rfl|rfl
   ·exact⟨_,this.1⟩
   ·exact⟨_,this.2⟩
 have own_F0:∀{x o},F₀ x=some o→own x=false:=λ{x o} e=>by
  cases q:own x with
  |false=>rfl
  |true=>
   simp only[own,Bool.or_eq_true,beq_iff_eq,List.any_eq_true]at q
   rcases q with(rfl|rfl)| ⟨p,m,q⟩
   ·rw[v.fa]at e;cases e
   ·rw[v.fd]at e;cases e
   ·have:=v.fam.fr p m
    rcases q with rfl|rfl
    ·have:=v.sub.none this.1;rw[this]at e;cases e
    ·have:=v.sub.none this.2;rw[this]at e;cases e
 have not_own:∀{x},F x=none→own x=false:=λ{x} e=>by
  cases q:own x with
  |false=>rfl
  |true=>obtain⟨o,e'⟩:=own_in q;rw[e]at e';cases e'
 let G':Sg:=λx=>if own x then none else G x
 have outG:∀{x},own x=false→G' x=G x:=λ{x} q=>by show(if own x then none else G x)=_;rw[q];rfl
 have own_slot:∀p∈P2.map (·.2),own p.ab=true∧own p.al=true:=λp m=>by
  constructor
  ·simp only[own,Bool.or_eq_true,List.any_eq_true];exact .inr (y12 p m (.inl (beq_self_eq_true _)))
  ·simp only[own,Bool.or_eq_true,List.any_eq_true];exact .inr (y12 p m (.inr (beq_self_eq_true _)))
 refine(y12 F' (y31 (qBl σ (P2.map (·.2))) bd P2 ⟨⟨qDZ _ _,λp m=>?_,v.fam.nb,v.fam.nl,λp m=>qEt m⟩,λx o e=>?_,?_,?_,?_,?_,v.nd,v.hb,v.hl⟩) (y31 G' ad P ⟨⟨λx o e=>?_,λp m=>?_,w.fam.nb,w.fam.nl,λp m=>?_⟩,λx o e=>?_,?_,?_,?_,?_,w.nd,w.hb,w.hl⟩))
 ·have:=v.fam.ok p m
  exact⟨hσ _ _ this.1,hσ _ _ this.2⟩
 ·have q:own x=false:=by
   cases q:own x with
   |false=>rfl
   |true=>rw[inn q]at e;cases e
  rw[qAr]
  ·exact hF' x o e
  ·intro p m
   exact⟨λr=>(by rw[r,(own_slot p m).1]at q;cases q),λr=>(by rw[r,(own_slot p m).2]at q;cases q)⟩
 ·rw[qAr]
  ·exact hσ _ _ (h2 _ _ v.st)
  ·intro p m
   have:=v.fam.fr p m
   exact⟨λr=>(by have:=this.1;rw[←r,v.st]at this;cases this),λr=>(by have:=this.2;rw[←r,v.st]at this;cases this)⟩
 ·rw[qAr]
  ·exact hσ _ _ (h2 _ _ v.dc)
  ·intro p m
   have:=v.fam.fr p m
   exact⟨λr=>(by have:=this.1;rw[←r,v.dc]at this;cases this),λr=>(by have:=this.2;rw[←r,v.dc]at this;cases this)⟩
 ·exact inn (by simp[own])
 ·exact inn (by simp[own])
 ·have q:own x=false:=by
   cases q:own x with
   |false=>rfl
   |true=>have e:(if own x then none else G x)=some o:=e;rw[q]at e;cases e
  rw[outG q]at e
  rw[out q];exact w.fam.sub _ _ e
 ·have:=w.fam.fr p m
  have hp:=w.fam.ok p m
  exact⟨by rw[out (not_own (w.sub.none this.1))];exact hp.1,by rw[out (not_own (w.sub.none this.2))];exact hp.2⟩
 ·have:=w.fam.fr p m
  exact⟨by rw[outG (not_own (w.sub.none this.1))];exact this.1,by rw[outG (not_own (w.sub.none this.2))];exact this.2⟩
 ·rw[outG (own_F0 e)]
  exact w.sub _ _ (h2 _ _ (v.sub _ _ e))
 ·rw[outG (not_own w.fa)];exact w.st
 ·rw[outG (not_own w.fd)];exact w.dc
 ·exact(v.sub.trans h2).none w.fa
 ·exact(v.sub.trans h2).none w.fd
noncomputable def boxN(x:Str)(v:Int):BoxT:=⟨x,v,1,1,0,[],[]⟩
noncomputable def store0:StoreT:=⟨[("INBOX",boxN "INBOX" 1)],[],2⟩
noncomputable def StoreT.names(S:StoreT):List Str:=qCF (S.boxes.map (·.1))
noncomputable def StoreT.boxTold(S:StoreT)(n:Str):D:=match pget S.boxes n with
 |some b=>b.told
 |none=>.none
noncomputable def StoreT.told(S:StoreT):D:=.tup [.int S.nextv,.tup (S.subs.map .str),.tup (S.names.map S.boxTold)]
theorem StAt.pair(h:StAt F σ a L S)(k:Str):(pget L k=none∧pget S.boxes k=none)∨∃ab b,pget L k=some ab∧pget S.boxes k=some b:=by
 obtain⟨G,ad,P,w⟩:=h
 rw[←w.hb,←w.hl,qAd,qAd]
 cases pget P k with
 |none=>exact .inl ⟨rfl,rfl⟩
 |some s=>exact .inr (y22 _ _ rfl rfl)
section
theorem qFl(ha:σ a=none)(h:∀τ ab,StAt σ τ a [("INBOX",ab)] store0→Q .none τ):FN w os (lv+4) 433 [.obj a] (σ.set a (.inst 462 [])) Q X:=by
 refine qA5 ["self"] rfl (len1 λ_=>rfl) λA fr L=>?_
 walk_at"e1"
 refine qAT ?_
 refine WE_Dict1 λad nd=>?_
 walk_at"e"
 have ne:a≠ad:=λe=>by rw[e,Sg.set_same]at nd;cases nd
 have hd:σ ad=none:=by rw[Sg.set_ne _ _ ne.symm]at nd;exact nd
 refine qA1 (lv:=2) rfl (by walk_at"lv") (f_box (lv:=0) λab τ nab hb=>?_)
 have h1:τ ad=some (.dstr []):=hb.sub _ _ (Sg.set_same _ _ _)
 have h2:(τ.set ad (.dstr [("INBOX",.obj ab)])) a=some (.inst 462 []):=by
  rw[Sg.set_ne _ _ ne];exact hb.sub _ _ (by rw[Sg.set_ne _ _ ne,Sg.set_same])
 refine(y13 _ rfl h1 ?_)
 walk_at"e"
 refine qAR ?_
 walk_at"e"
 walk_at"as"
 walk_at"as"
 refine h _ ab ?_
 obtain⟨al,f⟩:=hb
 have f2:=(f.set (Sg.set_same _ _ _) (.dstr [("INBOX",.obj ab)])).set (x:=a) (o:=.inst 462 []) (by rw[Sg.set_ne _ _ ne,Sg.set_ne _ _ ne,Sg.set_same]) (store0.mo ad)
 rw[Sg.set_set]at f2
 refine(y31 _ ad [("INBOX",⟨ab,al,boxN "INBOX" 1⟩)] ⟨f2,?_,Sg.set_same _ _ _,by rw[Sg.set_ne _ _ ne.symm,Sg.set_same];rfl,ha,hd,by simp,rfl,rfl⟩)
 refine Sg.Sub.setN (Sg.Sub.setN (Sg.sub_set ha) hd _) ha _
theorem qDe(h:∀a τ ab,σ a=none→StAt σ τ a [("INBOX",ab)] store0→Q (.obj a) τ):FN w os (lv+5) 462 [] σ Q X:=
 qFM (by decide) λx hx=>qFl hx λτ ab hs=>⟨rfl,h x τ ab hx hs⟩
theorem qAS(hs:StAt F σ a M S)(hz:x.length≤1000000)(h:∀ab b,pget M (qA4 x)=some ab→pget S.boxes (qA4 x)=some b→Q (.obj ab) σ)(hx:pget S.boxes (qA4 x)=none→X 76 σ):
  FN w os (lv+4) 447 [.obj a,.str x] σ Q X:=by
 obtain⟨ad,h1,h2,ne⟩:=hs.cells
 refine qA5 ["self","name"] rfl (len2 λ_ _=>rfl) λA fr L=>?_
 walk_at"e"
 refine qA1 (lv:=2) rfl (by walk_at"lv") (qEz (lv:=0) hz ?_)
 walk_at"e"
 refine O_ninS h2 ?_
 rw[qAd]
 walk_at"e"
 rcases hs.pair (qA4 x)with⟨e1,e2⟩| ⟨ab,b,e1,e2⟩
 ·rw[e1]
  walk_at"e"
  walk_at"x"
  exact hx e2
 ·rw[e1]
  walk_at"e"
  exact(.mk (qJa h2) (G_dS h2 (by rw[qAd,e1];rfl) (h ab b e1 e2)))
theorem qCT(hs:StAt F σ a M S)(hz:S.boxes.length < 64)(h:Q (.lst (S.names.map .str)) σ):FN w os (lv+1) 454 [.obj a] σ Q X:=by
 obtain⟨ad,h1,h2,ne⟩:=hs.cells
 have hk:=hs.keys.1
 have hl:M.length=S.boxes.length:=by have:=congrArg List.length hk;simpa using this
 refine qA5 ["self"] rfl (len1 λ_=>rfl) λA fr L=>?_
 walk_at"e"
 refine C_listS rfl h2 (by unfold mapV;rw[List.length_map];unfold sizeLine;omega) ?_
 rw[show(mapV (D.obj ·) M).map (λe=>D.str e.1)=(S.boxes.map (·.1)).map .str by rw[←hk];unfold mapV;rw[List.map_map,List.map_map];rfl]
 walk_at"e"
 exact qHY (by rw[List.length_map];exact hz) h
theorem qB1(hs:StAt F σ a M S)(hz:S.boxes.length < 64)(hsub:S.subs.length≤1000000)(hb:∀p∈S.boxes,p.2.letters.length≤1000000∧p.2.gone.length≤1000000)(h:Q S.told σ):FN w os (lv+3) 459 [.obj a] σ Q X:=by
 obtain⟨ad,h1,h2,ne⟩:=hs.cells
 have hk:=hs.keys.1
 have hnl:S.names.length < 64:=by unfold StoreT.names qCF;rw[List.length_mergeSort,List.length_map];exact hz
 refine qA5 ["self"] rfl (len1 λ_=>rfl) λA fr L=>?_
 walk_at"e"
 refine qAO (cl:=[("self",L+1)]) (ρ':=[("self",.obj a)]) ⟨rfl,by kernel_rfl!,rfl,qAH rfl (.inl rfl) qAA,(y03 (.inl rfl) rfl rfl),trivial⟩ ?_
 refine qAG (α:=Str) (λn=>some (S.boxTold n)) ?_
 walk_at"e"
 refine(.mk _ _ (qAQ (f:=454) h1) (qAJ rfl) ?_)
 walk_at"e"
 refine qA1 (lv:=1) rfl (by walk_at"lv") (qCT (lv:=0) hs hz ?_)
 refine(y35 S.names .str (λ_=>True) (by walk_at"sz") (qAN rfl) trivial (λx hx C=>.mk ?_) ?_)
 ·have hm:x∈S.boxes.map (·.1):=(List.mergeSort_perm _ _).mem_iff.mp hx
  rcases hs.pair x with⟨e1,e2⟩| ⟨ab,b,e1,e2⟩
  ·obtain⟨p,hp,rfl⟩:=List.mem_map.mp hm
   exact absurd rfl (pget_none.mp e2 p hp)
  have hs2:S.boxTold x=b.told:=by unfold StoreT.boxTold;rw[e2]
  obtain⟨ab',e1',G,hbx,_,_⟩:=hs.box e2
  obtain rfl:ab=ab':=by rw[e1]at e1';injection e1'
  obtain⟨al,k1,_⟩:=hbx.get
  rw[hs2]
  walk_at"e"
  refine(.mk (qJa h2) (G_dS h2 (d:=.obj ab) (by rw[qAd,e1];rfl) ?_))
  refine(.mk _ _ (qAQ (f:=172) k1) (qAJ rfl) ?_)
  have hz2:=hb _ (qAY e2)
  exact qA1 (lv:=2) rfl (by simp only[Cx.comp,cxOf];omega) (qHy (lv:=0) hbx hz2.1 hz2.2 ⟨rfl,rfl⟩)
 ·rw[show S.names.filterMap (λn=>some (S.boxTold n))=S.names.map S.boxTold by rw[←List.filterMap_eq_map];rfl]
  walk_at"e"
  refine qBy (by walk_at"sm") ?_
  walk_at"e"
  refine qBy (by walk_at"sm") ?_
  walk_at"e"
  exact h
end
noncomputable def V.isNum(v:V):Bool:=isi v.toD "int" && !isi v.toD "bool"
noncomputable def V.isTexts:V→Bool
 | .tup l=>(l.map λv=>isi v.toD "str").all id
 |_=>false
noncomputable def V.isNums:V→Bool
 | .tup l=>(l.map V.isNum).all id
 |_=>false
theorem V.sorted(v:V):(isiN v.toD).isSome=true:=by cases v <;> rfl
theorem V.tup_or(v:V):(∃l,v= .tup l)∨(isi v.toD "tuple"=false∧v.isTexts=false∧v.isNums=false):=by
 cases v with
 |tup l=>exact .inl ⟨l,rfl⟩
 |_=>exact .inr (y03 (by unfold V.toD;rfl) rfl rfl)
section
theorem qDj{v:V}(h:Q (.bool v.isNum) σ):FN w os (lv+1) 473 [v.toD] σ Q X:=by
 refine qA5 ["value"] rfl (len1 λ_=>rfl) λA fr L=>?_
 unfold V.isNum at h
 walk_at"e"
 refine qEG (by decide+kernel) v.sorted ?_
 walk_at"e"
 cases e:isi v.toD "int" <;> rw[e]at h
 ·walk_at"e"
  exact h
 ·walk_at"e"
  refine qEG (by decide+kernel) v.sorted ?_
  walk_at"e"
  exact h
theorem qGn{v:V}(hz:∀l,v= .tup l→l.length≤1000000)(h:Q (.bool v.isTexts) σ):FN w os (lv+1) 478 [v.toD] σ Q X:=by
 refine qA5 ["value"] rfl (len1 λ_=>rfl) λA fr L=>?_
 walk_at"e"
 refine qEG (by decide+kernel) v.sorted ?_
 rcases v.tup_or with⟨l,rfl⟩| ⟨e1,e2,e3⟩
 ·rw[show isi (V.tup l).toD "tuple"=true by unfold V.toD;rfl]
  unfold V.isTexts at h
  have hl:=hz l rfl
  walk_at"e"
  refine qAO (cl:=[]) (ρ':=[]) ⟨rfl,by kernel_rfl!,rfl,qAA,trivial⟩ ?_
  refine qAG (α:=V) (λv=>some (.bool (isi v.toD "str"))) ?_
  walk_at"e"
  refine(y35 l V.toD (λ_=>True) (by walk_at"sz") (by unfold V.toD;rw[V.toDs_map];exact qCM rfl) trivial (λx hx C=>.mk ?_) ?_)
  ·walk_at"e"
   exact qEG (by decide+kernel) x.sorted ⟨rfl,rfl⟩
  ·rw[show l.filterMap (λv=>some (D.bool (isi v.toD "str")))=(l.map λv=>isi v.toD "str").map .bool by rw[List.map_map,←List.filterMap_eq_map];rfl]
   walk_at"e"
   exact C_all rfl h
 ·rw[e1]
  rw[e2]at h
  walk_at"e"
  exact h
theorem qF5{v:V}(hz:∀l,v= .tup l→l.length≤1000000)(h:Q (.bool v.isNums) σ):FN w os (lv+2) 483 [v.toD] σ Q X:=by
 refine qA5 ["value"] rfl (len1 λ_=>rfl) λA fr L=>?_
 walk_at"e"
 refine qEG (by decide+kernel) v.sorted ?_
 rcases v.tup_or with⟨l,rfl⟩| ⟨e1,e2,e3⟩
 ·rw[show isi (V.tup l).toD "tuple"=true by unfold V.toD;rfl]
  unfold V.isNums at h
  have hl:=hz l rfl
  walk_at"e"
  refine qAO (cl:=[]) (ρ':=[]) ⟨rfl,by kernel_rfl!,rfl,qAA,trivial⟩ ?_
  refine qAG (α:=V) (λv=>some (.bool v.isNum)) ?_
  walk_at"e"
  refine(y35 l V.toD (λ_=>True) (by walk_at"sz") (by unfold V.toD;rw[V.toDs_map];exact qCM rfl) trivial (λx hx C=>.mk ?_) ?_)
  ·walk_at"e"
   exact qA1 (lv:=1) rfl (by simp only[Cx.comp,cxOf];omega) (qDj (lv:=0) ⟨rfl,rfl⟩)
  ·rw[show l.filterMap (λv=>some (D.bool v.isNum))=(l.map V.isNum).map .bool by rw[List.map_map,←List.filterMap_eq_map];rfl]
   walk_at"e"
   exact C_all rfl h
 ·rw[e1]
  rw[e3]at h
  walk_at"e"
  exact h
noncomputable def qCl(v:V)(x:Str):Bool:=if x=="t" then isi v.toD "str" else if x=="n" then v.isNum else if x=="o" then isi v.toD "bytes" else if x=="f" then v.isTexts else if x=="u" then v.isNums else isi v.toD "tuple"
theorem qFu{v:V}(hz:∀l,v= .tup l→l.length≤1000000)(h:Q (.bool (qCl v x)) σ):FN w os (lv+3) 490 [v.toD,.str x] σ Q X:=by
 refine qA5 ["value","letter"] rfl (len2 λ_ _=>rfl) λA fr L=>?_
 unfold qCl at h
 walk_at"e"
 cases e1:x=="t" <;> simp only[e1,Bool.false_eq_true,if_false,if_true]at h
 ·walk_at"e"
  cases e2:x=="n" <;> simp only[e2,Bool.false_eq_true,if_false,if_true]at h
  ·walk_at"e"
   cases e3:x=="o" <;> simp only[e3,Bool.false_eq_true,if_false,if_true]at h
   ·walk_at"e"
    cases e4:x=="f" <;> simp only[e4,Bool.false_eq_true,if_false,if_true]at h
    ·walk_at"e"
     cases e5:x=="u" <;> simp only[e5,Bool.false_eq_true,if_false,if_true]at h
     ·walk_at"e"
      exact qEG (by decide+kernel) v.sorted h
     ·walk_at"e"
      exact qA1 (lv:=2) rfl (by walk_at"lv") (qF5 (lv:=0) hz h)
    ·walk_at"e"
     exact qA1 (lv:=1) rfl (by walk_at"lv") (qGn (lv:=0) hz h)
   ·walk_at"e"
    exact qEG (by decide+kernel) v.sorted h
  ·walk_at"e"
   exact qA1 (lv:=1) rfl (by walk_at"lv") (qDj (lv:=0) h)
 ·walk_at"e"
  exact qEG (by decide+kernel) v.sorted h
end
noncomputable def shapesL:List (Str × Str × Str):=[("create:tn","create","tn"),("delete:t","delete","t"),("rename:tt","rename","tt"),("append:tfno","append","tfno"),("flags:tnf","flags","tnf"),("store:tutfn","store","tutfn"),("expunge:tu","expunge","tu"),("copy:tut","copy","tut"),("move:tut","move","tut"),("subscribe:t","subscribe","t"),("unsubscribe:t","unsubscribe","t"),("forget:tn","forget","tn"),("snapshot:nfr","snapshot","nfr")]
theorem qFR:Txt.split "create:tn delete:t rename:tt append:tfno flags:tnf store:tutfn expunge:tu copy:tut move:tut subscribe:t unsubscribe:t forget:tn snapshot:nfr" " "=shapesL.map (·.1):=by decide+kernel
theorem qGQ:shapesL.all (λp=>Txt.split p.1 ":"== [p.2.1,p.2.2] && decide (p.1.length≤30) && decide (p.2.2.length≤10) && decide ((Builtin.Str.partsBetween p.1 (Builtin.Str.occurrences p.1 ":" 0 p.1.length (p.1.length+1)) (":":Str).length).length≤100))=true:=by decide+kernel
noncomputable def qC9:List V→List Nat→Bool
 |v::vs,c::cs=>qCl v ⟨#[c]⟩ && qC9 vs cs
 |_,_=>true
theorem qAk{cs:List Nat}:qC9 [] cs=true:=rfl
theorem qAl{v:V}{vs:List V}{c:Nat}{cs:List Nat}:qC9 (v::vs) (c::cs)=(qCl v ⟨#[c]⟩ && qC9 vs cs):=rfl
noncomputable def qB9(w:Str)(vs:List V):Bool:=match shapesL.find? (λp=>p.2.1==w) with
 |none=>false
 |some p=>vs.length==p.2.2.length && qC9 vs p.2.2.cps.toList
section
theorem qDk{vs:List V}(hl:vs.length≤1000)(hz:∀v∈vs,∀l,v= .tup l→l.length≤1000000)(h:qB9 x vs=true→Q .none σ)(hx:qB9 x vs=false→X 76 σ):FN w os (lv+4) 497 [V.toD (.tup (.str x::vs))] σ Q X:=by
 simp only[V.toD,V.toDs]
 rw[V.toDs_map]
 refine qA5 ["row"] rfl (len1 λ_=>rfl) λA fr L=>?_
 have el:(D.str x::vs.map V.toD).length=vs.length+1:=by rw[List.length_cons,List.length_map]
 walk_at"e"
 walk_at"isi"
 walk_at"e"
 refine qGI (by rw[el];unfold sizeLine;omega) ?_
 walk_at"e"
 refine qBK (k:=0) (seq0 _) rfl (by decide) ?_
 walk_at"e"
 walk_at"isi"
 walk_at"e"
 refine qBA (J:=λd τ=>d= .lst ((shapesL.map (·.1)).map .str)∧τ=σ) rfl ?_ ?_
 ·walk_at"e"
  exact qH3 (by decide+kernel) (by decide+kernel) (by decide+kernel) (by rw[qFR];exact⟨rfl,rfl⟩)
 rintro d τ ⟨rfl,rfl⟩
 refine(.mk _ (λ_=>True) (qAN rfl) (λi ρ τ1=>τ1=τ∧ρ.lookup ("row":Str)=some (.tup (.str x::vs.map V.toD))∧(shapesL.take i).find? (λp=>p.2.1==x)=none) (y03 rfl rfl rfl) (λ_ _ _ _=>trivial) ?_ ?_)
 ·rintro i ρ1 τ1 d hd ⟨rfl,h1,h2⟩
  rw[List.getElem?_map,List.getElem?_map]at hd
  obtain⟨en',hd2,rfl⟩:=Option.map_eq_some_iff.mp hd
  obtain⟨p,hp,rfl⟩:=Option.map_eq_some_iff.mp hd2
  have hf:=List.all_eq_true.mp qGQ p (List.mem_of_getElem? hp)
  simp only[Bool.and_eq_true,beq_iff_eq,decide_eq_true_eq]at hf
  obtain⟨⟨⟨hf1,hf2⟩,hf3⟩,hf4⟩:=hf
  obtain⟨en,wd,sh⟩:=p
  simp only at hf1 hf2 hf3 hf4
  change AS _ _ (D.str en) _ _ _ _
  have key:(wd==x)=true→qB9 x vs=(vs.length==sh.length && qC9 vs sh.cps.toList):=λq=>by
   unfold qB9
   rw[show shapesL=(shapesL.take i++ [(en,wd,sh)])++shapesL.drop (i+1) by rw[←(show shapesL.take (i+1)=shapesL.take i++ [(en,wd,sh)] by rw[List.take_add_one,hp];rfl),List.take_append_drop],List.find?_append,List.find?_append,h2]
   simp only[List.find?_cons,q];rfl
  walk_at"e"
  refine qH3 (by decide+kernel) (show en.length≤sizeLine by unfold sizeLine;omega) (Nat.le_trans hf4 (by decide)) ?_
  rw[hf1]
  refine AS_lst rfl ?_
  walk_at"e"
  refine qBK (k:=0) (seq0 _) rfl (by decide) ?_
  walk_at"e"
  cases q:wd==x
  ·walk_at"e"
   refine(y03 rfl (by walk_at"nm") ?_)
   rw[List.take_add_one,hp,List.find?_append,h2]
   simp only[Option.toList_some,List.find?_cons,q];rfl
  ·rw[key q]at h hx
   walk_at"e"
   refine qGI (by rw[el];unfold sizeLine;omega) ?_
   walk_at"e"
   refine qE6 (by walk_at"sz") ?_
   walk_at"e"
   rw[show(((D.str x::vs.map V.toD).length:Int) !=(sh.length:Int)+1)= !(vs.length==sh.length) by
    rw[el,bne]
    by_cases r:vs.length=sh.length
    ·rw[r];simp
    ·rw[beq_false_of_ne r,beq_false_of_ne (by omega)]]
   cases q2:vs.length==sh.length <;> rw[q2]at h hx
   ·walk_at"e"
    walk_at"x"
    exact hx rfl
   ·walk_at"e"
    refine qGA rfl rfl ?_
    walk_at"e"
    refine(y03 rfl qCZ ?_)
    walk_at"e"
    refine G_sliceT (k:=1) (Nat.le_refl _) (by rw[el];omega) (by rw[el];unfold sizeLine;omega) ?_
    walk_at"e"
    refine(y44 _ _ (vs.map V.toD) (signs sh) rfl ZSrc.tup ZSrc.str (.mk (λi ρ τ2=>τ2=τ1∧qC9 (vs.drop i) (sh.cps.toList.drop i)=qC9 vs sh.cps.toList) ⟨rfl,rfl⟩ ?_ ?_))
    ·rintro j ρ2 τ2 d e hd he ⟨rfl,h3⟩
     unfold signs at he
     rw[List.getElem?_map]at hd he
     obtain⟨v,hv,rfl⟩:=Option.map_eq_some_iff.mp hd
     obtain⟨ch,hch,rfl⟩:=Option.map_eq_some_iff.mp he
     obtain⟨hv1,hv2⟩:=List.getElem?_eq_some_iff.mp hv
     obtain⟨hc1,hc2⟩:=List.getElem?_eq_some_iff.mp hch
     rw[List.drop_eq_getElem_cons hv1,List.drop_eq_getElem_cons hc1,hv2,hc2,qAl]at h3
     walk_at"e"
     refine qA1 (lv:=3) rfl (by walk_at"lv") (qFu (lv:=0) (hz v (List.mem_of_getElem? hv)) ?_)
     walk_at"e"
     cases q3:qCl v ⟨#[ch]⟩ <;> rw[q3]at h3
     ·walk_at"e"
      walk_at"x"
      exact hx (by rw[←h3];rfl)
     ·walk_at"e"
      exact⟨rfl,by rw[←h3];rfl⟩
    ·rintro ρ2 τ2 ⟨rfl,h3⟩
     have hsl:sh.cps.toList.length=sh.length:=Array.length_toList
     have hvl:vs.length=sh.length:=by simpa using q2
     unfold signs at h3
     rw[List.length_map,List.length_map,hsl,hvl,Nat.min_self,List.drop_of_length_le (Nat.le_of_eq hvl),qAk]at h3
     walk_at"e"
     exact h (by rw[←h3];rfl)
 ·rintro ρ1 τ1 ⟨rfl,h1,h2⟩
  rw[List.length_map,List.length_map,List.take_length]at h2
  walk_at"e"
  walk_at"x"
  exact hx (by unfold qB9;rw[h2])
end
noncomputable def StoreT.put(S:StoreT)(k:Str)(b:BoxT):StoreT:= {S with boxes:=pset S.boxes k b}
noncomputable def StoreT.valid(S:StoreT)(v:Int):Bool:=decide (S.nextv≤v) && decide (v < 4294967295)
noncomputable def StoreT.create(S:StoreT)(n:Str)(v:Int):Option (D × StoreT):=
 if !qB8 (qA4 n)then none else if(pget S.boxes (qA4 n)).isSome then none else if !S.valid v then none else some (.int v,{S with boxes:=pset S.boxes (qA4 n) (boxN (qA4 n) v),nextv:=v+1})
noncomputable def StoreT.delete(S:StoreT)(n:Str):Option (D × StoreT):=(pget S.boxes (qA4 n)).bind λb=>if b.name=="INBOX" then none else some (.int b.validity,{S with boxes:=pdel S.boxes b.name})
noncomputable def StoreT.subscribe(S:StoreT)(n:Str):Option (D × StoreT):=
 if !qB8 (qA4 n)then none else if decide (qA4 n∈S.subs)then some (.bool false,S)else some (.bool true,{S with subs:=qCF (S.subs++ [qA4 n])})
noncomputable def StoreT.unsubscribe(S:StoreT)(n:Str):Option (D × StoreT):=
 if !decide (qA4 n∈S.subs)then none else some (.bool true,{S with subs:=S.subs.filter λx=>x !=qA4 n})
theorem iteN{c:Prop} [Decidable c]{α:Type}{X:Option α}{y:α}(e:(if c then none else X)=some y):¬c∧X=some y:=by
 by_cases h:c
 ·rw[if_pos h]at e;cases e
 ·rw[if_neg h]at e;exact⟨h,e⟩
theorem matN{α β:Type}{o:Option β}{f:β→Option α}{y:α}(e:o.bind f=some y):∃b,o=some b∧f b=some y:=by
 cases o with
 |none=>cases e
 |some b=>exact⟨b,rfl,e⟩
theorem qCO{α β:Type}{a r:α}{b s:β}(e:some (a,b)=some (r,s)):b=s:=congrArg Prod.snd (Option.some.inj e)
def Out(o:Option (D × StoreT))(K:D→StoreT→Prop)(Z:Prop):Prop:=(∀r S',o=some (r,S')→K r S')∧(o=none→Z)
section
variable {K:D→StoreT→Prop}{o X:Option (D × StoreT)}{β:Type}{b:Option β}{f:β→Option (D × StoreT)}{x:Bool}
theorem Out.so{r:D}{S':StoreT}(H:Out o K Z)(e:o=some (r,S')):K r S':=H.1 r S' e
theorem Out.bn(H:Out (b.bind f) K Z)(e:b=none):Z:=H.2 (e▸rfl)
theorem Out.bs{y:β}(H:Out (b.bind f) K Z)(e:b=some y):Out (f y) K Z:=by subst e;exact H
theorem Out.pt(H:Out (if x=true then none else X) K Z)(e:x=true):Z:=H.2 (if_pos e)
theorem Out.pf(H:Out (if x=true then none else X) K Z)(e:x=false):Out X K Z:=by subst e;exact H
theorem Out.ct{Y:Option (D × StoreT)}(H:Out (if x=true then X else Y) K Z)(e:x=true):Out X K Z:=by subst e;exact H
theorem Out.cf{Y:Option (D × StoreT)}(H:Out (if x=true then X else Y) K Z)(e:x=false):Out Y K Z:=by subst e;exact H
theorem Out.nt(H:Out (if(!x)=true then none else X) K Z)(e:x=false):Z:=H.2 (by subst e;rfl)
theorem Out.nf(H:Out (if(!x)=true then none else X) K Z)(e:x=true):Out X K Z:=by subst e;exact H
end
section
theorem qCn(hs:StAt F σ a M S)(h:pget S.boxes x=none→Q .none σ)(hx:(pget S.boxes x).isSome=true→X 76 σ):FN w os (lv+4) 525 [.obj a,.str x] σ Q X:=by
 obtain⟨ad,h1,h2,ne⟩:=hs.cells
 refine qA5 ["store","name"] rfl (len2 λ_ _=>rfl) λA fr L=>?_
 walk_at"e"
 refine O_inS h2 ?_
 rw[qAd]
 walk_at"e"
 rcases hs.pair x with⟨e1,e2⟩| ⟨ab,b,e1,e2⟩
 ·rw[e1]
  walk_at"e"
  exact h e2
 ·rw[e1]
  walk_at"e"
  walk_at"x"
  exact hx (by rw[e2];rfl)
theorem qBv{v:Int}(hs:StAt F σ a M S)(h:S.valid v=true→Q .none σ)(hx:S.valid v=false→X 76 σ):FN w os (lv+4) 532 [.obj a,.int v] σ Q X:=by
 obtain⟨ad,h1,h2,ne⟩:=hs.cells
 unfold StoreT.valid at h hx
 refine qA5 ["store","validity"] rfl (len2 λ_ _=>rfl) λA fr L=>?_
 walk_at"e"
 cases e1:decide (S.nextv≤v) <;> rw[e1]at h hx
 ·walk_at"e"
  walk_at"x"
  exact hx rfl
 ·walk_at"e"
  cases e2:decide (v < 4294967295) <;> rw[e2]at h hx
  ·walk_at"e"
   walk_at"x"
   exact hx rfl
  ·walk_at"e"
   exact h rfl
theorem f_create{n:Str}{v:Int}(hs:StAt F σ a M S)(hn:n.length≤100000)(hz:S.boxes.length < 64)(h:∀r S',S.create n v=some (r,S')→∀τ M',StAt F τ a M' S'→Q r τ)(hx:S.create n v=none→X 76 σ):
  FN w os (lv+6) 544 [.obj a,.str n,.int v] σ Q X:=by
 have H:Out (S.create n v) (λr S'=>∀τ M',StAt F τ a M' S'→Q r τ) (X 76 σ):=⟨h,hx⟩
 clear h hx
 have hk:=hs.keys.1
 have hl:M.length=S.boxes.length:=by have:=congrArg List.length hk;simpa using this
 refine qA5 ["store","name","validity"] rfl (len3 λ_ _ _=>rfl) λA fr L=>?_
 walk_at"e"
 refine qA1 (lv:=5) rfl (by walk_at"lv") (qBt (lv:=0) (by omega) (λq=>?_) H.nt)
 have H:=H.nf q
 walk_at"e"
 refine qA1 (lv:=4) rfl (by walk_at"lv") (qCn (lv:=0) hs (λq2=>?_) H.pt)
 have H:=H.pf (congrArg Option.isSome q2)
 walk_at"e"
 refine qA1 (lv:=4) rfl (by walk_at"lv") (qBv (lv:=0) hs (λq3=>?_) H.nt)
 have H:=H.nf q3
 walk_at"e"
 refine qA1 (lv:=2) rfl (by walk_at"lv") (f_box (lv:=0) λab τ nab hb=>?_)
 obtain⟨ad,h1,h2,ne⟩:=hs.cells
 have k1:=hb.sub _ _ h1
 have k2:=hb.sub _ _ h2
 walk_at"e"
 refine I_dS k2 (by unfold mapV;rw[List.length_map];unfold sizeLine;omega) ?_
 have hs2:=hs.add h1 hb q2
 have k3:(τ.set ad (.dstr (pset (mapV (.obj ·) M) (qA4 n) (.obj ab)))) a=some (S.mo ad):=by rw[Sg.set_ne _ _ ne];exact k1
 walk_at"e"
 exact H.so rfl _ _ (hs2.flds (S':= {S with boxes:=pset S.boxes (qA4 n) (boxN (qA4 n) v),nextv:=v+1}) k3 rfl)
theorem f_delete{n:Str}(hs:StAt F σ a M S)(hn:n.length≤100000)(hz:S.boxes.length < 64)(hk:∀p∈S.boxes,p.2.name=p.1)(h:∀r S',S.delete n=some (r,S')→∀τ M',StAt F τ a M' S'→Q r τ)(hx:S.delete n=none→X 76 σ):
  FN w os (lv+5) 551 [.obj a,.str n] σ Q X:=by
 have H:Out (S.delete n) (λr S'=>∀τ M',StAt F τ a M' S'→Q r τ) (X 76 σ):=⟨h,hx⟩
 clear h hx
 obtain⟨ad,h1,h2,ne⟩:=hs.cells
 have hkk:=hs.keys.1
 have hl:M.length=S.boxes.length:=by have:=congrArg List.length hkk;simpa using this
 refine qA5 ["store","name"] rfl (len2 λ_ _=>rfl) λA fr L=>?_
 walk_at"e"
 refine(.mk _ _ (qAQ (f:=447) h1) (qAJ rfl) ?_)
 walk_at"e"
 refine qA1 (lv:=4) rfl (by walk_at"lv") (qAS (lv:=0) hs (by omega) (λab b e1 e2=>?_) H.bn)
 have H:=H.bs e2
 obtain⟨ab',e1',G,hbx,_,_⟩:=hs.box e2
 obtain rfl:ab=ab':=by rw[e1]at e1';injection e1'
 obtain⟨al,k1,_⟩:=hbx.get
 have hnm:=hk _ (qAY e2)
 walk_at"e"
 cases q:b.name=="INBOX"
 ·walk_at"e"
  refine(.mk _ _ (GM_pop h2) qAD ?_)
  walk_at"e"
  refine C_popS h2 (d:=.obj ab) (by rw[qAd,hnm,e1];rfl) (by unfold mapV;rw[List.length_map];unfold sizeLine;omega) ?_
  have k2:(σ.set ad (.dstr (pdel (mapV (.obj ·) M) b.name))) ab=some (b.mo al):=by
   rw[Sg.set_ne _ _ (λe=>by rw[e,h2]at k1;unfold BoxT.mo at k1;cases k1)];exact k1
  walk_at"e"
  exact(H.pf q).so rfl _ _ (hs.pop h1)
 ·walk_at"e"
  walk_at"x"
  exact H.pt q
theorem qGh{n:Str}(hs:StAt F σ a M S)(hn:n.length≤100000)(hz:S.subs.length < 60)(h:∀r S',S.subscribe n=some (r,S')→∀τ M',StAt F τ a M' S'→Q r τ)(hx:S.subscribe n=none→X 76 σ):
  FN w os (lv+6) 610 [.obj a,.str n] σ Q X:=by
 have H:Out (S.subscribe n) (λr S'=>∀τ M',StAt F τ a M' S'→Q r τ) (X 76 σ):=⟨h,hx⟩
 clear h hx
 obtain⟨ad,h1,h2,ne⟩:=hs.cells
 refine qA5 ["store","name"] rfl (len2 λ_ _=>rfl) λA fr L=>?_
 walk_at"e"
 refine qA1 (lv:=5) rfl (by walk_at"lv") (qBt (lv:=0) (by omega) (λq=>?_) H.nt)
 have H:=H.nf q
 walk_at"e"
 refine O_inL ?_
 walk_at"e"
 by_cases q2:qA4 n∈S.subs
 ·rw[decide_eq_true q2]
  walk_at"e"
  exact H.so (if_pos (decide_eq_true q2)) _ _ hs
 ·rw[decide_eq_false q2]
  walk_at"e"
  refine qAR ?_
  walk_at"e"
  refine O_addL (by rw[List.length_map,List.length_singleton];unfold sizeLine;omega) ?_
  rw[show S.subs.map D.str++ [D.str (qA4 n)]=(S.subs++ [qA4 n]).map .str by rw[List.map_append];rfl]
  walk_at"e"
  refine qHY (by rw[List.length_append,List.length_singleton];omega) ?_
  walk_at"e"
  exact H.so (if_neg (Bool.eq_false_iff.mp (decide_eq_false q2))) _ _ (hs.flds (S':= {S with subs:=qCF (S.subs++ [qA4 n])}) h1 rfl)
theorem qEv{n:Str}(hs:StAt F σ a M S)(hn:n.length≤100000)(hz:S.subs.length < 60)(h:∀r S',S.unsubscribe n=some (r,S')→∀τ M',StAt F τ a M' S'→Q r τ)(hx:S.unsubscribe n=none→X 76 σ):
  FN w os (lv+5) 615 [.obj a,.str n] σ Q X:=by
 have H:Out (S.unsubscribe n) (λr S'=>∀τ M',StAt F τ a M' S'→Q r τ) (X 76 σ):=⟨h,hx⟩
 clear h hx
 obtain⟨ad,h1,h2,ne⟩:=hs.cells
 refine qA5 ["store","name"] rfl (len2 λ_ _=>rfl) λA fr L=>?_
 walk_at"e"
 refine qA1 (lv:=2) rfl (by walk_at"lv") (qEz (lv:=0) (by omega) ?_)
 walk_at"e"
 refine O_ninL ?_
 walk_at"e"
 cases q:(!decide (qA4 n∈S.subs))
 ·walk_at"e"
  refine qAO (cl:=[("found",L+1)]) (ρ':=[("found",.str (qA4 n))]) ⟨rfl,by kernel_rfl!,rfl,qAH rfl (.inl rfl) qAA,(y03 (.inl rfl) rfl (by walk_at"nm")),trivial⟩ ?_
  refine qAG (α:=Str) (λx=>if x !=qA4 n then some (.str x)else none) ?_
  walk_at"e"
  refine(y35 S.subs .str (λ_=>True) (by walk_at"sz") (qAN rfl) trivial (λx hx C=>.mk ?_) ?_)
  ·walk_at"e"
   cases q3:(x !=qA4 n)
   ·walk_at"e"
    exact⟨rfl,rfl⟩
   ·walk_at"e"
    exact⟨rfl,rfl⟩
  rw[qDc D.str (λx=>x !=qA4 n)]
  walk_at"e"
  exact(H.pf q).so rfl _ _ (hs.flds (S':= {S with subs:=S.subs.filter λx=>x !=qA4 n}) h1 rfl)
 ·walk_at"e"
  walk_at"x"
  exact H.pt q
end
section
variable {K V:Type} [DecidableEq K]
theorem qAp(p:K × V)(r:List (K × V))(x:K):pget (p::r) x=if p.1=x then some p.2 else pget r x:=by
 unfold pget
 rw[List.find?_cons]
 by_cases e:p.1=x
 ·rw[if_pos e,decide_eq_true e];rfl
 ·rw[if_neg e,decide_eq_false e]
theorem pget_app(l r:List (K × V))(x:K):pget (l++r) x=(pget l x).or (pget r x):=by
 induction l with
 |nil=>rfl
 |cons p l ih=>
  rw[List.cons_append,qAp,qAp,ih]
  split <;> rfl
theorem qAL(l:List (K × V))(k x:K)(v:V):pget (pset l k v) x=if x=k then some v else pget l x:=by
 have h:∀l:List (K × V),pget (l.map λkv=>if kv.1=k then(kv.1,v)else kv) x=if x=k then(if l.any (λkv=>kv.1=k)then some v else none)else pget l x:=by
  intro l
  induction l with
  |nil=>split <;> rfl
  |cons p r ih=>
   rw[List.map_cons,qAp,qAp,ih,List.any_cons]
   by_cases e:p.1=k
   ·by_cases f:x=k
    ·simp[e,f]
    ·have g:¬k=x:=λq=>f q.symm
     simp[e,f,g]
   ·by_cases f:x=k
    ·rw[decide_eq_false e,Bool.false_or,if_neg e,if_pos f,if_pos f,if_neg (λq=>e (q.trans f))]
    ·simp[e,f]
 unfold pset
 split
 ·rename_i q
  rw[h,if_pos q]
 ·rename_i q
  have q:∀p∈l,¬p.1=k:=λp hp e=>q (List.any_eq_true.mpr (y12 p hp (decide_eq_true e)))
  rw[pget_app,qAp]
  by_cases f:x=k
  ·subst f
   rw[pget_none.mpr q,if_pos rfl,if_pos rfl];rfl
  ·rw[if_neg f,if_neg (λe=>f e.symm)]
   cases pget l x <;> rfl
theorem qIZ(l:List (K × V))(k x:K):pget (pdel l k) x=if x=k then none else pget l x:=by
 induction l with
 |nil=>split <;> rfl
 |cons p r ih=>
  unfold pdel at ih ⊢
  by_cases e:p.1=k
  ·rw[List.filter_cons_of_neg (by simpa using e),ih,qAp]
   by_cases f:x=k
   ·rw[if_pos f,if_pos f]
   ·rw[if_neg f,if_neg f,if_neg (λq=>f (q.symm.trans e))]
  ·rw[List.filter_cons_of_pos (by simpa using e),qAp,qAp,ih]
   by_cases f:x=k
   ·rw[if_pos f,if_pos f,if_neg (λq=>e (q.trans f))]
   ·rw[if_neg f,if_neg f]
theorem qDE{l:List (K × V)}{k:K}{v:V}{p:K × V}(h:p∈pset l k v):p=(k,v)∨p∈l:=by
 unfold pset at h
 split at h
 ·obtain⟨q,hq,e⟩:=List.mem_map.mp h
  split at e
  ·rename_i f;exact .inl (by rw[←e,f])
  ·exact .inr (e▸hq)
 ·rcases List.mem_append.mp h with h|h
  ·exact .inr h
  ·exact .inl (List.mem_singleton.mp h)
theorem qEn{l:List (K × V)}{k:K}{p:K × V}(h:p∈pdel l k):p∈l∧p.1≠k:=by
 unfold pdel at h
 have:=List.mem_filter.mp h
 exact⟨this.1,by simpa using this.2⟩
end
theorem StAt.at'{k:Str}(h:StAt F σ a L S)(e:pget L k=some ab):
  ∃b,pget S.boxes k=some b∧∃G,BoxAt G σ ab b∧F.Sub G∧∀τ b',BoxAt G τ ab b'→StAt F τ a L {S with boxes:=pset S.boxes k b'}:=by
 rcases h.pair k with⟨e1,_⟩| ⟨ab',b,e1,e2⟩
 ·rw[e]at e1;cases e1
 ·obtain⟨ab2,e3,r⟩:=h.box e2
  obtain rfl:ab=ab2:=by rw[e]at e3;injection e3
  exact(y12 b e2 r)
theorem qGV{ls ls':List LetT}{uid:Int}(e:ls'.map LetT.uid=ls.map LetT.uid):qAX ls' uid=qAX ls uid:=by
 unfold qAX
 rw[e,show ls'.length=ls.length by rw[←List.length_map (f:=LetT.uid),e,List.length_map]]
theorem qFU{ls:List LetT}{uid:Int}{i:Nat}{l:LetT}(e:qAX ls uid=(i:Int))(h:ls[i]? =some l):l.uid=uid:=by
 rcases qCx ls uid with q| ⟨k,l',q,h',u⟩
 ·rw[q]at e;omega
 ·rw[q]at e;cases Int.ofNat.inj e;rw[h]at h';cases h';exact u
theorem set_self{α:Type}{l:List α}{i:Nat}{x:α}(e:l[i]? =some x):l.set i x=l:=by
 induction l generalizing i with
 |nil=>cases e
 |cons a r ih=>
  cases i with
  |zero=>rw[←Option.some.inj e];rfl
  |succ i=>exact congrArg (a:: ·) (ih e)
theorem setF_ok{b:BoxT}{uid:Int}{ns:List Str}(h:qAX b.letters uid ≥ 0):∃r b',b.setF uid ns=some (r,b')∧b'.letters.map LetT.uid=b.letters.map LetT.uid:=by
 unfold BoxT.setF
 rcases qBH b.letters uid with e| ⟨i,l,e1,e2,e3⟩
 ·omega
 ·rw[if_neg (by omega),e1,show((i:Int)).toNat=i from rfl,e2]
  have hu:=qFU e1 e2
  by_cases q:l.flags=ns
  ·refine(y22 false b ?_ rfl)
   show(if l.flags=ns then some (false,b)else _)=_
   rw[if_pos q]
  ·refine(y22 true {b with top:=b.top+1,letters:=b.letters.set i ⟨uid,l.octets,ns,l.instant,b.top+1⟩} ?_ ?_)
   ·show(if l.flags=ns then _ else some (true,{b with top:=b.top+1,letters:=b.letters.set i ⟨uid,l.octets,ns,l.instant,b.top+1⟩}))=_
    rw[if_neg q]
   show(b.letters.set i ⟨uid,l.octets,ns,l.instant,b.top+1⟩).map LetT.uid=_
   rw[List.map_set,show(⟨uid,l.octets,ns,l.instant,b.top+1⟩:LetT).uid=l.uid from hu.symm]
   exact set_self (by rw[List.getElem?_map,e2];rfl)
theorem qI9{ns:List Str}{way:Str}(hf:FlagsOk fs)(hn:FlagsOk ns):∃rs,qD6 fs way ns=some rs:=by
 unfold qD6
 split
 ·exact qAv λx m=>(List.mem_append.mp m).elim (hf.1 x) (hn.1 x)
 ·split
  ·exact⟨_,rfl⟩
  ·exact⟨_,rfl⟩
theorem qFP{u:Option Int}{way:Str}{ns:List Str}(hn:FlagsOk ns){r:List LetT}{b:BoxT}{ch:List Int}(h:∀l∈r,qAX b.letters l.uid ≥ 0∧FlagsOk l.flags):∃p,qAo u way ns b ch r=some p∧p.1.letters.map LetT.uid=b.letters.map LetT.uid:=by
 induction r generalizing b ch with
 |nil=>exact y12 _ rfl rfl
 |cons l r ih=>
  rw[qDQ]
  split
  ·exact ih λx m=>h x (List.mem_cons_of_mem _ m)
  ·obtain⟨h1,h2⟩:=h l List.mem_cons_self
   obtain⟨rs,e1⟩:=qI9 (way:=way) h2 hn
   obtain⟨ts,e2⟩:=qAv (qFE h2 hn e1).1
   obtain⟨t,b',e3,e4⟩:=setF_ok (ns:=ts) h1
   rw[e1,Option.bind_some,e2,Option.bind_some,e3]
   obtain⟨p,e5,e6⟩:=ih (b:=b') (ch:=if t then ch++ [l.uid]else ch) λx m=>by
    rw[qGV e4];exact h x (List.mem_cons_of_mem _ m)
   exact(y12 p e5 (e6.trans e4))
theorem qGW{b:BoxT}:∀l∈b.picks us,qAX b.letters l.uid ≥ 0:=λl h=>by
 obtain⟨u,_,e⟩:=List.mem_filterMap.mp h
 unfold BoxT.letterT at e
 split at e
 ·rename_i q
  rcases qBH b.letters u with e0| ⟨i,l',e1,e2,e3⟩
  ·omega
  ·rw[e1,show((i:Int)).toNat=i from rfl,e2]at e
   injection e with e
   subst e
   rw[qFU e1 e2];exact q
 ·cases e
noncomputable def BoxT.full(b:BoxT)(n:Int):Bool:=decide (b.top+n > 9223372036854775807)
noncomputable def StoreT.append(S:StoreT)(n:Str)(fs:List Str)(i:Int)(o:Array UInt8):Option (D × StoreT):=(pget S.boxes (qA4 n)).bind λb=>if !b.room 1 then none else(qB0 fs).bind λns=>some (.tup [.int b.validity,.int b.next_uid],S.put (qA4 n) (b.add o ns i))
noncomputable def StoreT.flag(S:StoreT)(n:Str)(u:Int)(fs:List Str):Option (D × StoreT):=(pget S.boxes (qA4 n)).bind λb=>if b.full 1 then none else((qB0 fs).bind (b.setF u)).bind λp=>some (.bool p.1,S.put (qA4 n) p.2)
noncomputable def qDN(u:Int):Option Int:=if u < 0 then none else some u
noncomputable def StoreT.store(S:StoreT)(n:Str)(us:List Int)(way:Str)(fs:List Str)(u:Int):Option (D × StoreT):=(pget S.boxes (qA4 n)).bind λb=>if b.full us.length then none else(qB0 fs).bind λns=>((qB0 ns).bind λns=>qAo (qDN u) way ns b [] (b.picks us)).bind λp=>some (.tup [.lst (p.2.map .int),.lst (((b.picks us).filter (refB (qDN u))).map λl=>.int l.uid)],S.put (qA4 n) p.1)
noncomputable def StoreT.expunge(S:StoreT)(n:Str)(us:List Int):Option (D × StoreT):=(pget S.boxes (qA4 n)).bind λb=>if b.full 1 then none else some (.tup ((b.expunge us).1.map .int),S.put (qA4 n) (b.expunge us).2)
structure BoxT.Ok(b:BoxT):Prop where
 zl:b.letters.length≤60
 zg:b.gone.length≤1000
 fl:∀l∈b.letters,FlagsOk l.flags
section
theorem f_append{n:Str}{i:Int}{o:Array UInt8}(hs:StAt F σ a M S)(hn:n.length≤100000)(hb:∀p∈S.boxes,p.2.Ok)(hf:∀x∈fs,x∈flagsL)(hl:fs.length < 64)
  (h:∀r S',S.append n fs i o=some (r,S')→∀τ,StAt F τ a M S'→Q r τ)(hx:S.append n fs i o=none→X 76 σ):
  FN w os (lv+7) 577 [.obj a,.str n,.tup (fs.map .str),.int i,.bytes o] σ Q X:=by
 have H:Out (S.append n fs i o) (λr S'=>∀τ,StAt F τ a M S'→Q r τ) (X 76 σ):=⟨h,hx⟩
 clear h hx
 obtain⟨ad,h1,h2,ne⟩:=hs.cells
 refine qA5 ["store","name","flags","instant","octets"] rfl (len5 λ_ _ _ _ _=>rfl) λA fr L=>?_
 walk_at"e"
 refine(.mk _ _ (qAQ (f:=447) h1) (qAJ rfl) ?_)
 walk_at"e"
 refine qA1 (lv:=4) rfl (by walk_at"lv") (qAS (lv:=0) hs (by omega) (λab b e1 e2=>?_) H.bn)
 have H:=H.bs e2
 obtain⟨ab',e1',G,hbx,_,back⟩:=hs.box e2
 obtain rfl:ab=ab':=by rw[e1]at e1';injection e1'
 have hbo:=hb _ (qAY e2)
 walk_at"e"
 refine qA1 (lv:=5) rfl (by walk_at"lv") (qDh (lv:=0) hbx (λq=>?_) H.nt)
 have H:=H.nf q
 walk_at"e"
 refine qA1 (lv:=6) rfl (by walk_at"lv") (qD2 (lv:=0) hbx (by have:=hbo.zl;simp only at this;omega) hf hl (λns e τ hτ=>?_) H.bn)
 obtain⟨al,k1,_⟩:=hτ.get
 unfold LetT.toD
 walk_at"e"
 exact(H.bs e).so rfl _ (back _ _ hτ)
theorem f_flag{n:Str}{u:Int}(hs:StAt F σ a M S)(hn:n.length≤100000)(hb:∀p∈S.boxes,p.2.Ok)(hf:∀x∈fs,x∈flagsL)(hl:fs.length < 64)
  (h:∀r S',S.flag n u fs=some (r,S')→∀τ,StAt F τ a M S'→Q r τ)(hx:S.flag n u fs=none→X 76 σ):
  FN w os (lv+7) 584 [.obj a,.str n,.int u,.tup (fs.map .str)] σ Q X:=by
 have H:Out (S.flag n u fs) (λr S'=>∀τ,StAt F τ a M S'→Q r τ) (X 76 σ):=⟨h,hx⟩
 clear h hx
 obtain⟨ad,h1,h2,ne⟩:=hs.cells
 refine qA5 ["store","name","uid","flags"] rfl (len4 λ_ _ _ _=>rfl) λA fr L=>?_
 walk_at"e"
 refine(.mk _ _ (qAQ (f:=447) h1) (qAJ rfl) ?_)
 walk_at"e"
 refine qA1 (lv:=4) rfl (by walk_at"lv") (qAS (lv:=0) hs (by omega) (λab b e1 e2=>?_) H.bn)
 have H:=H.bs e2
 obtain⟨ab',e1',G,hbx,_,back⟩:=hs.box e2
 obtain rfl:ab=ab':=by rw[e1]at e1';injection e1'
 have hbo:=hb _ (qAY e2)
 walk_at"e"
 refine qA1 (lv:=4) rfl (by walk_at"lv") (qAV (lv:=0) hbx (λq=>?_) λq=>H.pt (decide_eq_true q))
 have H:=H.pf (decide_eq_false q)
 walk_at"e"
 exact qA1 (lv:=6) rfl (by walk_at"lv") (qDf (lv:=0) hbx (by have:=hbo.zl;simp only at this;omega) hf hl (λns r b' e e' τ hτ=>(H.bs (y:=(r,b')) (by rw[e];exact e')).so rfl τ (back _ _ hτ)) λe=>H.bn (e▸rfl))
theorem qHw{n:Str}(hs:StAt F σ a M S)(hn:n.length≤100000)(hb:∀p∈S.boxes,p.2.Ok)(hl:us.length < 64)
  (h:∀r S',S.expunge n us=some (r,S')→∀τ,StAt F τ a M S'→Q r τ)(hx:S.expunge n us=none→X 76 σ):
  FN w os (lv+5) 598 [.obj a,.str n,.tup (us.map .int)] σ Q X:=by
 have H:Out (S.expunge n us) (λr S'=>∀τ,StAt F τ a M S'→Q r τ) (X 76 σ):=⟨h,hx⟩
 clear h hx
 obtain⟨ad,h1,h2,ne⟩:=hs.cells
 refine qA5 ["store","name","uids"] rfl (len3 λ_ _ _=>rfl) λA fr L=>?_
 walk_at"e"
 refine(.mk _ _ (qAQ (f:=447) h1) (qAJ rfl) ?_)
 walk_at"e"
 refine qA1 (lv:=4) rfl (by walk_at"lv") (qAS (lv:=0) hs (by omega) (λab b e1 e2=>?_) H.bn)
 have H:=H.bs e2
 obtain⟨ab',e1',G,hbx,_,back⟩:=hs.box e2
 obtain rfl:ab=ab':=by rw[e1]at e1';injection e1'
 have hbo:=hb _ (qAY e2)
 have hz1:b.letters.length≤60:=hbo.zl
 have hz2:b.gone.length≤1000:=hbo.zg
 walk_at"e"
 refine qA1 (lv:=4) rfl (by walk_at"lv") (qAV (lv:=0) hbx (λq=>?_) λq=>H.pt (decide_eq_true q))
 have H:=H.pf (decide_eq_false q)
 walk_at"e"
 refine qA1 (lv:=2) rfl (by walk_at"lv") (qFv (lv:=0) (.inl rfl) hbx (by omega) (by omega) (by omega) λτ hτ=>?_)
 have hel:(b.expunge us).1.length≤b.letters.length:=by
  unfold BoxT.expunge BoxT.exp1
  split
  ·exact Nat.zero_le _
  ·exact Nat.le_trans (List.length_filter_le _ _) (by rw[List.length_map];exact Nat.le_refl _)
 walk_at"e"
 refine qBy (by walk_at"sm") ?_
 exact H.so rfl τ (back _ _ hτ)
theorem f_stores{n way:Str}{u:Int}(hs:StAt F σ a M S)(hn:n.length≤100000)(hb:∀p∈S.boxes,p.2.Ok)(hl:us.length < 64)
  (hf:∀x∈fs,x∈flagsL)(hfl:fs.length < 64)(hw:way="+"∨way="-"∨way="=")
  (h:∀r S',S.store n us way fs u=some (r,S')→∀τ,StAt F τ a M S'→Q r τ)(hx:S.store n us way fs u=none→X 76 σ):
  FN w os (lv+9) 591 [.obj a,.str n,.tup (us.map .int),.str way,.tup (fs.map .str),.int u] σ Q X:=by
 have H:Out (S.store n us way fs u) (λr S'=>∀τ,StAt F τ a M S'→Q r τ) (X 76 σ):=⟨h,hx⟩
 clear h hx
 obtain⟨ad,h1,h2,ne⟩:=hs.cells
 refine qA5 ["store","name","uids","way","flags","unless"] rfl (len6 λ_ _ _ _ _ _=>rfl) λA fr L=>?_
 walk_at"e"
 refine(.mk _ _ (qAQ (f:=447) h1) (qAJ rfl) ?_)
 walk_at"e"
 refine qA1 (lv:=4) rfl (by walk_at"lv") (qAS (lv:=0) hs (by omega) (λab b e1 e2=>?_) H.bn)
 have H:=H.bs e2
 obtain⟨ab',e1',G,hbx,_,back⟩:=hs.box e2
 obtain rfl:ab=ab':=by rw[e1]at e1';injection e1'
 have hbo:=hb _ (qAY e2)
 have hz1:b.letters.length≤60:=hbo.zl
 walk_at"e"
 refine qGI (by walk_at"sm") ?_
 rw[List.length_map]
 walk_at"e"
 refine qA1 (lv:=4) rfl (by walk_at"lv") (qAV (lv:=0) hbx (λq=>?_) λq=>H.pt (decide_eq_true q))
 have H:=H.pf (decide_eq_false q)
 walk_at"e"
 refine O_ninT (xs:=["+","-","="]) ?_
 rw[show(!decide (way∈(["+","-","="]:List Str)))=false by rcases hw with rfl|rfl|rfl <;> decide+kernel]
 walk_at"e"
 refine qA1 (lv:=5) rfl (by walk_at"lv") (qB2 (lv:=0) hf hfl (λns e=>?_) H.bn)
 have hns:=qAg hf e
 obtain⟨ns2,e3⟩:=qAv hns.1
 have hn2:=qAg hns.flags e3
 obtain⟨p,e4,e5⟩:=qFP (u:=qDN u) (way:=way) hn2 (r:=b.picks us) (b:=b) (ch:=[]) λl m=>⟨qGW l m,hbo.fl l (qDU l m)⟩
 have fin:=qEw (w:=w) (os:=os) (lv:=0) (Q:=Q) (X:=X) hbx (by omega) hl hbo.fl hns hw e3 e4 λτ hτ=>((H.bs e).bs (y:=p) (by rw[e3];exact e4)).so rfl τ (back _ _ hτ)
 have hu:optI (qDN u)=if u < 0 then .none else .int u:=by unfold qDN;split <;> rfl
 rw[hu]at fin
 walk_at"e"
 by_cases q4:u < 0
 ·rw[if_pos q4]at fin
  rw[decide_eq_true q4]
  walk_at"e"
  exact qA1 (lv:=8) rfl (by walk_at"lv") fin
 ·rw[if_neg q4]at fin
  rw[decide_eq_false q4]
  walk_at"e"
  exact qA1 (lv:=8) rfl (by walk_at"lv") fin
end
noncomputable def BoxT.needs(b:BoxT)(us:List Int):Bool:=(qAa us).all λu=>(b.letterT u).isSome
noncomputable def StoreT.copied(S:StoreT)(k g:Str)(b t:BoxT)(us:List Int)(mv:Bool):D × StoreT:=
 let r:=qAE t [] (b.sel us)
 let S1:=S.put g r.1
 (.tup [.int t.validity,.tup (r.2.map λp=>.int p.1),.tup (r.2.map λp=>.int p.2)],if mv then(match pget S1.boxes k with
  |some b2=>S1.put k (b2.expunge (r.2.map (·.1))).2
  |none=>S1)else S1)
noncomputable def StoreT.copyMove(S:StoreT)(n:Str)(us:List Int)(g:Str)(mv:Bool):Option (D × StoreT):=(pget S.boxes (qA4 n)).bind λb=>(pget S.boxes (qA4 g)).bind λt=>if !b.needs us then none else if b.full 1 then none else if !t.room (qAa us).length then none else some (S.copied (qA4 n) (qA4 g) b t (qAa us) mv)
theorem qC5(r:List LetT)(g:BoxT)(ps:List (Int × Int)):(qAE g ps r).1.letters.length=g.letters.length+r.length∧(qAE g ps r).2.length=ps.length+r.length∧(qAE g ps r).1.gone=g.gone∧(qAE g ps r).1.validity=g.validity∧(qAE g ps r).1.name=g.name:=by
 induction r generalizing g ps with
 |nil=>exact y05 rfl rfl rfl rfl rfl
 |cons l r ih=>
  rw[qHP]
  obtain⟨h1,h2,h3,h4,h5⟩:=ih (g.add l.octets ((qB0 l.flags).getD []) l.instant) (ps++ [(l.uid,g.next_uid)])
  refine(y05 ?_ ?_ h3 h4 h5)
  ·rw[h1];unfold BoxT.add;simp only[List.length_append,List.length_cons,List.length_nil];omega
  ·rw[h2];simp only[List.length_append,List.length_cons,List.length_nil];omega
theorem qEg(b:BoxT)(us:List Int):(b.sel us).length≤us.length:=by
 unfold BoxT.sel
 refine Nat.le_trans (List.length_filterMap_le _ _) ?_
 unfold qCG;rw[List.length_mergeSort];exact Nat.le_refl _
section
theorem qGk{b:BoxT}(hb:BoxAt F σ ab b)(hz:b.letters.length≤1000000)(hu:us.length < 64)(h:b.needs us=true→Q (.lst ((qAa us).map .int)) σ)(hx:b.needs us=false→X 76 σ):
  FN w os (lv+4) 537 [.obj ab,.tup (us.map .int)] σ Q X:=by
 refine qCt ?_
 refine qA5 ["box","uids"] rfl (len2 λ_ _=>rfl) λA fr L=>?_
 walk_at"e"
 refine qJQ rfl rfl (by decide+kernel) rfl (by decide+kernel) rfl rfl ?_
 walk_at"e"
 refine(y13 us rfl (by walk_at"sz") (λa na=>?_))
 have hk:=qBV us
 have hdl:=qCV us
 walk_at"e"
 refine qJl rfl (Sg.set_same _ _ _) (by walk_at"sz") ?_
 rw[show((qAB us).map λe=>D.int e.1)=(qCy us).map .int by unfold qCy;rw[List.map_map];rfl]
 walk_at"e"
 refine qFI (by unfold qCy;rw[List.length_map];omega) ?_
 change STs _ _ (rset _ _ (D.lst ((qAa us).map .int))) _ _ _ _
 have hb1:=hb.new na (.dint (qAB us))
 obtain⟨al,k1,_⟩:=hb1.get
 walk_at"e"
 refine qBA (J:=λd τ=>d= .lst ((qAa us).map .int)∧τ=σ.set a (.dint (qAB us))) rfl (by walk_at"e";exact⟨rfl,rfl⟩) ?_
 rintro d τ ⟨rfl,rfl⟩
 refine(.mk _ (λ_=>True) (qAN rfl) (λi ρ τ1=>ρ.lookup ("box":Str)=some (.obj ab)∧ρ.lookup ("found":Str)=some (.lst ((qAa us).map .int))∧τ1=σ.set a (.dint (qAB us))∧((qAa us).take i).all (λu=>(b.letterT u).isSome)=true) (y04 rfl rfl rfl rfl) (λ_ _ _ _=>trivial) ?_ ?_)
 ·rintro i ρ1 τ1 d hd ⟨h1,h2,rfl,h3⟩
  rw[List.getElem?_map]at hd
  obtain⟨y,hy,rfl⟩:=Option.map_eq_some_iff.mp hd
  have hm:=List.mem_of_getElem? hy
  walk_at"e"
  refine(.mk _ _ (qAQ (f:=162) k1) (qAJ rfl) ?_)
  walk_at"e"
  refine qA1 (lv:=2) rfl (by walk_at"lv") (qD1 (lv:=0) hb1 hz ?_)
  walk_at"e"
  cases e:b.letterT y with
  |none=>
   unfold optD
   walk_at"e"
   refine X_one (X:=λC τ=>∃υ:Sg,υ.Sub τ∧X C υ) ?_ (by decide) rfl (by walk_at"lv") (λk=>absurd rfl k)
   exact(y12 σ (Sg.sub_set na) (hx (by
    unfold BoxT.needs
    rw[List.all_eq_false]
    exact(y12 y hm (by rw[e];decide)))))
  |some l=>
   unfold optD LetT.toD
   walk_at"e"
   refine(y04 (by walk_at"nm") (by walk_at"nm") rfl ?_)
   rw[List.take_add_one,hy,List.all_append,h3]
   simp[e]
 ·rintro ρ1 τ1 ⟨h1,h2,rfl,h3⟩
  rw[List.length_map,List.take_length]at h3
  walk_at"e"
  exact(y12 σ (Sg.sub_set na) (h h3))
theorem qCB{n g:Str}{mv:Bool}(hs:StAt F σ a M S)(hn:n.length≤100000)(hg:g.length≤100000)(hb:∀p∈S.boxes,p.2.Ok)(hl:us.length < 64)
  (h:∀r S',S.copyMove n us g mv=some (r,S')→∀τ,StAt F τ a M S'→Q r τ)(hx:S.copyMove n us g mv=none→X 76 σ):
  FN w os (lv+9) 603 [.obj a,.str n,.tup (us.map .int),.str g,.bool mv] σ Q X:=by
 have H:Out (S.copyMove n us g mv) (λr S'=>∀τ,StAt F τ a M S'→Q r τ) (X 76 σ):=⟨h,hx⟩
 clear h hx
 obtain⟨ad,h1,h2,ne⟩:=hs.cells
 refine qA5 ["store","name","uids","goal","is_move"] rfl (len5 λ_ _ _ _ _=>rfl) λA fr L=>?_
 walk_at"e"
 refine(.mk _ _ (qAQ (f:=447) h1) (qAJ rfl) ?_)
 walk_at"e"
 refine qA1 (lv:=4) rfl (by walk_at"lv") (qAS (lv:=0) hs (by omega) (λab b e1 e2=>?_) H.bn)
 have H:=H.bs e2
 walk_at"e"
 refine(.mk _ _ (qAQ (f:=447) h1) (qAJ rfl) ?_)
 walk_at"e"
 refine qA1 (lv:=4) rfl (by walk_at"lv") (qAS (lv:=0) hs (by omega) (λag t e3 e4=>?_) H.bn)
 have H:=H.bs e4
 obtain⟨ab',e1',G,hbx,_,_⟩:=hs.box e2
 obtain rfl:ab=ab':=by rw[e1]at e1';injection e1'
 obtain⟨ag',e3',G2,hgx,_,back⟩:=hs.box e4
 obtain rfl:ag=ag':=by rw[e3]at e3';injection e3'
 have hbo:=hb _ (qAY e2)
 have hgo:=hb _ (qAY e4)
 have hz1:b.letters.length≤60:=hbo.zl
 have hz2:t.letters.length≤60:=hgo.zl
 have hz3:b.gone.length≤1000:=hbo.zg
 have hz4:t.gone.length≤1000:=hgo.zg
 have hdl:=qCV us
 have hsl:=qEg b (qAa us)
 obtain⟨c1,c2,c3,c4,c5⟩:=qC5 (b.sel (qAa us)) t []
 simp only[List.length_nil]at c2
 walk_at"e"
 refine qA1 (lv:=4) rfl (by walk_at"lv") (qGk (lv:=0) hbx (by omega) hl (λq=>?_) H.nt)
 have H:=H.nf q
 walk_at"e"
 refine qA1 (lv:=4) rfl (by walk_at"lv") (qAV (lv:=0) hbx (λq=>?_) λq=>H.pt (decide_eq_true q))
 have H:=H.pf (decide_eq_false q)
 walk_at"e"
 refine qHa (by walk_at"sm") ?_
 rw[List.length_map]
 walk_at"e"
 refine qA1 (lv:=5) rfl (by walk_at"lv") (qDh (lv:=0) hgx (λq=>?_) H.nt)
 have h:=(H.nf q).so rfl
 unfold StoreT.copied at h
 walk_at"e1"
 walk_at"e1"
 generalize hS2:(if mv=true then(match pget (S.put (qA4 g) (qAE t [] (b.sel (qAa us))).1).boxes (qA4 n)with|some b2=>(S.put (qA4 g) (qAE t [] (b.sel (qAa us))).1).put (qA4 n) (b2.expunge ((qAE t [] (b.sel (qAa us))).2.map (·.1))).2|none=>S.put (qA4 g) (qAE t [] (b.sel (qAa us))).1)else S.put (qA4 g) (qAE t [] (b.sel (qAa us))).1)=S2 at h
 refine WE.mono (Q:=λd τ=>d= .lst ((qAE t [] (b.sel (qAa us))).2.map qBI)∧StAt F τ a M S2∧∃t',pget S2.boxes (qA4 g)=some t'∧t'.validity=t.validity) ?_ ?_
 ·cases mv
  ·walk_at"e"
   refine qA1 (lv:=7) rfl (by walk_at"lv") (qCC (lv:=0) hbx hgx (by omega) (by omega) (by omega) hbo.fl λτ hτ=>?_)
   subst hS2
   exact(y03 rfl (back _ _ hτ) ⟨_,by rw[if_neg (by decide)];unfold StoreT.put;rw[qAL,if_pos rfl],c4⟩)
  ·walk_at"e"
   refine qA1 (lv:=8) rfl (by walk_at"lv") (qCA (lv:=0) hbx hgx (by omega) (by omega) (by omega) hbo.fl λτ hτ=>?_)
   have hS1:StAt F τ a M (S.put (qA4 g) (qAE t [] (b.sel (qAa us))).1):=back _ _ hτ
   obtain⟨b2,e6,G3,hbx2,_,back2⟩:=hS1.at' e1
   rw[if_pos rfl,e6]at hS2
   have hb2:b2.letters.length≤1000000∧b2.gone.length≤1000000:=by
    unfold StoreT.put at e6
    rw[qAL]at e6
    split at e6
    ·injection e6 with e6;subst e6;rw[c1,c3];omega
    ·rw[e2]at e6;injection e6 with e6;subst e6;omega
   refine(y25 G3 b2 hbx2 hb2.1 hb2.2 (by omega) (λυ hυ=>?_))
   subst hS2
   refine(y03 rfl (back2 _ _ hυ) ?_)
   show ∃t',pget (pset _ _ _) _=_∧_
   rw[qAL]
   split
   ·rename_i k
    rw[←k,show(S.put (qA4 g) (qAE t [] (b.sel (qAa us))).1).boxes=pset S.boxes (qA4 g) (qAE t [] (b.sel (qAa us))).1 from rfl,qAL,if_pos rfl]at e6
    injection e6 with e6
    subst e6
    refine(y12 _ rfl ?_)
    rw[←c4]
    unfold BoxT.expunge BoxT.exp1
    split <;> rfl
   ·rw[show(S.put (qA4 g) (qAE t [] (b.sel (qAa us))).1).boxes=pset S.boxes (qA4 g) (qAE t [] (b.sel (qAa us))).1 from rfl,qAL,if_pos rfl]
    exact(y12 _ rfl c4)
 ·rintro d τ ⟨rfl,hS,t',e7,e8⟩
  obtain⟨t2,e9,G3,hgx2,_⟩:=hS.at' e3
  obtain rfl:t'=t2:=by rw[e7]at e9;injection e9
  obtain⟨al,k1,_⟩:=hgx2.get
  generalize (qAE t [] (b.sel (qAa us))).2=ps at h c2
  walk_at"e"
  refine qAO (cl:=[]) (ρ':=[]) ⟨rfl,by kernel_rfl!,rfl,qAA,trivial⟩ ?_
  refine qAG (α:=Int × Int) (λp=>some (.int p.1)) ?_
  walk_at"e"
  refine(y35 ps qBI (λ_=>True) (by walk_at"sz") (qAN rfl) trivial (λx hx C=>.mk ?_) ?_)
  ·unfold qBI
   walk_at"e"
   exact qBK (k:=0) rfl rfl (by decide) ⟨rfl,rfl⟩
  rw[show ps.filterMap (λp=>some (D.int p.1))=ps.map λp=>.int p.1 by rw[←List.filterMap_eq_map];rfl]
  walk_at"e"
  refine qBy (by walk_at"sm") ?_
  walk_at"e"
  refine qAO (cl:=[]) (ρ':=[]) ⟨rfl,by kernel_rfl!,rfl,qAA,trivial⟩ ?_
  refine qAG (α:=Int × Int) (λp=>some (.int p.2)) ?_
  walk_at"e"
  refine(y35 ps qBI (λ_=>True) (by walk_at"sz") (qAN rfl) trivial (λx hx C=>.mk ?_) ?_)
  ·unfold qBI
   walk_at"e"
   exact qBK (k:=1) rfl rfl (by decide) ⟨rfl,rfl⟩
  rw[show ps.filterMap (λp=>some (D.int p.2))=ps.map λp=>.int p.2 by rw[←List.filterMap_eq_map];rfl]
  walk_at"e"
  refine qBy (by walk_at"sm") ?_
  walk_at"e"
  rw[e8]
  exact h τ hS
end
theorem mo_inj{T:StoreT}{ad ad':Addr}(h:S.mo ad=T.mo ad'):ad=ad':=by
 unfold StoreT.mo at h;injection h with _ h;injection h with h;injection h with _ h;injection h
theorem StAt.popB{ad:Addr}{k:Str}{b:BoxT}(h:StAt F σ a L S)(ha:σ a=some (S.mo ad))(e:pget S.boxes k=some b):
  ∃(s:Slot) (F':Sg),s.b=b∧pget L k=some s.ab∧Fam F F' [s]∧StAt F' (σ.set ad (.dstr (pdel (mapV (.obj ·) L) k))) a (pdel L k) {S with boxes:=pdel S.boxes k}:=by
 obtain⟨G,ad',P,w⟩:=h
 obtain rfl:ad'=ad:=by
  have:=w.fam.sub _ _ w.st;rw[ha]at this;injection this with this;exact(mo_inj this).symm
 have e':=e
 rw[←w.hb,qAd]at e'
 obtain⟨s,es,rfl⟩:=Option.map_eq_some_iff.mp e'
 obtain⟨P1,P2,rfl,n1,n2⟩:=qC0 w.nd es
 have hp:((P1++(k,s)::P2).map (·.2)).Perm ((P1++P2).map (·.2)++ [s]):=by
  rw[List.map_append,List.map_cons,List.map_append]
  exact List.perm_middle.trans (List.perm_append_comm (l₁:=[s]))
 obtain⟨f1,f2⟩:=(w.fam.perm hp).split
 generalize hG1:qBl σ ((P1++P2).map (·.2))=G1 at f1 f2
 have os:=f2.ok s (by simp)
 have fs:=f2.fr s (by simp)
 have a1:s.ab≠a:=λq=>by have:=fs.1;rw[q,w.st]at this;cases this
 have a2:s.al≠a:=λq=>by have:=fs.2;rw[q,w.st]at this;cases this
 have a3:s.ab≠ad':=λq=>by have:=fs.1;rw[q,w.dc]at this;cases this
 have a4:s.al≠ad':=λq=>by have:=fs.2;rw[q,w.dc]at this;cases this
 let F':Sg:=λx=>if x=a∨x=ad' then none else G1 x
 have out:∀{x},x≠a→x≠ad'→F' x=G1 x:=λ{x} h1 h2=>by show(if x=a∨x=ad' then none else G1 x)=_;rw[if_neg];rintro(h|h) <;> contradiction
 have F'a:F' a=none:=by show(if a=a∨a=ad' then none else G1 a)=_;rw[if_pos (.inl rfl)]
 have F'd:F' ad'=none:=by show(if ad'=a∨ad'=ad' then none else G1 ad')=_;rw[if_pos (.inr rfl)]
 have hF':F'.Sub G1:=λx o q=>by
  have q:(if x=a∨x=ad' then none else G1 x)=some o:=q
  split at q
  ·cases q
  ·exact q
 have ed:mapV (λs:Slot=>D.obj s.ab) (P1++P2)=pdel (mapV (.obj ·) L) k:=by
  rw[←w.hl,show mapV (D.obj ·) (mapV Slot.ab (P1++(k,s)::P2))=mapV (λs:Slot=>D.obj s.ab) (P1++(k,s)::P2) by unfold mapV;rw[List.map_map];rfl,qC1,qCc n1 n2]
 refine(y24 s F' rfl (by rw[←w.hl,qAd,es];rfl) ⟨λx o q=>?_,λp m=>?_,by simp,by simp,λp m=>?_⟩
  (y31 (G1.set ad' (.dstr (pdel (mapV (.obj ·) L) k))) ad' (P1++P2) ⟨f1.set (f2.sub _ _ w.dc) _,Sg.Sub.setN hF' F'd _,by rw[Sg.set_ne _ _ w.ne];exact f2.sub _ _ w.st,by rw[Sg.set_same,ed],F'a,F'd,?_,?_,?_⟩))
 ·rw[out (λr=>by rw[r,w.fa]at q;cases q) (λr=>by rw[r,w.fd]at q;cases q)]
  exact f2.sub _ _ (w.sub _ _ q)
 ·rw[List.mem_singleton.mp m]
  exact⟨by rw[out a1 a3];exact os.1,by rw[out a2 a4];exact os.2⟩
 ·rw[List.mem_singleton.mp m]
  exact⟨w.sub.none fs.1,w.sub.none fs.2⟩
 ·refine w.nd.sublist (List.Sublist.map _ ?_)
  exact(List.Sublist.refl P1).append (List.sublist_cons_self _ P2)
 ·show mapV Slot.b (P1++P2)=pdel S.boxes k
  rw[←w.hb,qC1,qCc n1 n2]
 ·rw[←w.hl,qC1,qCc n1 n2]
theorem qHj{K V:Type} [DecidableEq K]{l:List (K × V)}{k:K}{v:V}(nd:(l.map (·.1)).Nodup):((pset l k v).map (·.1)).Nodup:=by
 cases e:pget l k with
 |none=>
  rw[qDD e,List.map_append,List.nodup_append]
  exact(y03 nd (by simp) (λx hx y hy q=>by
   obtain⟨p,hp,rfl⟩:=List.mem_map.mp hx
   have:y=k:=by simpa using hy
   exact pget_none.mp e p hp (q.trans this)))
 |some u=>
  obtain⟨l1,l2,rfl,n1,n2⟩:=qC0 nd e
  rw[qCb n1 n2]
  simpa using nd
theorem StAt.absorb{F₀:Sg}{ad:Addr}{k:Str}{s:Slot}(h:StAt F σ a L S)(ha:σ a=some (S.mo ad))(f:Fam F₀ F [s]):
  StAt F₀ (σ.set ad (.dstr (pset (mapV (.obj ·) L) k (.obj s.ab)))) a (pset L k s.ab) {S with boxes:=pset S.boxes k s.b}:=by
 obtain⟨G,ad',P,w⟩:=h
 obtain rfl:ad'=ad:=by
  have:=w.fam.sub _ _ w.st;rw[ha]at this;injection this with this;exact(mo_inj this).symm
 have os:=f.ok s (by simp)
 have fs:=f.fr s (by simp)
 have fg:Fam (qBl G [s]) G [s]:=⟨qDZ _ _,λp m=>by rw[List.mem_singleton.mp m];exact⟨w.sub _ _ os.1,w.sub _ _ os.2⟩,by simp,by simp,λp m=>qEt m⟩
 have j:=w.fam.join fg
 have ne:∀{x},F x=none→∀p∈[s],x≠p.ab∧x≠p.al:=λ{x} e p m=>by
  rw[List.mem_singleton.mp m]
  exact⟨λq=>(by rw[q,os.1]at e;cases e),λq=>(by rw[q,os.2]at e;cases e)⟩
 have ga:qBl G [s] a=some (S.mo ad'):=by rw[qAr (ne w.fa)];exact w.st
 have gd:qBl G [s] ad'=some (.dstr (mapV (λs:Slot=>.obj s.ab) P)):=by rw[qAr (ne w.fd)];exact w.dc
 have ed:mapV (λs:Slot=>D.obj s.ab) (pset P k s)=pset (mapV (.obj ·) L) k (.obj s.ab):=by
  rw[←w.hl,show mapV (D.obj ·) (mapV Slot.ab P)=mapV (λs:Slot=>D.obj s.ab) P by unfold mapV;rw[List.map_map];rfl]
  exact(qBe (λs:Slot=>D.obj s.ab) P k s).symm
 have j2:=j.set gd (.dstr (pset (mapV (.obj ·) L) k (.obj s.ab)))
 have hsub:F₀.Sub (qBl G [s]):=λx o q=>by
  rw[qAr]
  ·exact w.sub _ _ (f.sub _ _ q)
  ·intro p m
   rw[List.mem_singleton.mp m]
   exact⟨λr=>(by rw[r,fs.1]at q;cases q),λr=>(by rw[r,fs.2]at q;cases q)⟩
 refine(y31 ((qBl G [s]).set ad' (.dstr (pset (mapV (.obj ·) L) k (.obj s.ab)))) ad' (pset P k s) ⟨?_,hsub.setN (f.sub.none w.fd) _,by rw[Sg.set_ne _ _ w.ne];exact ga,by rw[Sg.set_same,ed],f.sub.none w.fa,f.sub.none w.fd,qHj w.nd,?_,?_⟩)
 ·cases e:pget P k with
  |none=>rw[qDD e,List.map_append];exact j2
  |some u=>
   obtain⟨l1,l2,rfl,n1,n2⟩:=qC0 w.nd e
   rw[qCb n1 n2]
   rw[List.map_append,List.map_cons]at j2 ⊢
   have hp:(l1.map (·.2)++u::l2.map (·.2)++ [s]).Perm (u::(l1.map (·.2)++s::l2.map (·.2))):=
    (List.perm_append_comm (l₂:=[s])).trans ((List.perm_middle.cons s).trans ((List.Perm.swap u s _).trans (List.perm_middle.symm.cons u)))
   exact(j2.perm hp).sublist (List.sublist_cons_self _ _)
 ·rw[←w.hb];exact(qBe Slot.b P k s).symm
 ·rw[←w.hl];exact(qBe Slot.ab P k s).symm
theorem Fam.flds{s:Slot}{P:List Slot}{b':BoxT}(h:Fam F σ (s::P))(e:b'.letters=s.b.letters):Fam F (σ.set s.ab (b'.mo s.al)) (⟨s.ab,s.al,b'⟩::P):=by
 obtain⟨f1,f2⟩:=Fam.split (P1:=[s]) (P2:=P) h
 have o:=f1.ok s (by simp)
 have r:=f1.fr s (by simp)
 have ne:s.ab≠s.al:=o.ne o
 have f3:Fam (qBl σ [s]) (σ.set s.ab (b'.mo s.al)) [⟨s.ab,s.al,b'⟩]:=⟨f1.sub.setN r.1 _,λp m=>by
  rw[List.mem_singleton.mp m]
  exact⟨Sg.set_same _ _ _,by show(σ.set s.ab _) s.al=some (.list (b'.letters.map LetT.toD));rw[Sg.set_ne _ _ ne.symm,e];exact o.2⟩,by simp,by simp,λp m=>by rw[List.mem_singleton.mp m];exact r⟩
 exact f3.join f2
noncomputable def qBk(p:Str × Str):D:=.tup [.str p.1,.str p.2]
noncomputable def isOf(old n:Str):Bool:=n==old || Txt.startswith n (old++"/")
noncomputable def qBf(old new n:Str):Str:=new++Txt.slice n (some (old.length:Int)) none
noncomputable def qCP(old new:Str):List Str→List (Str × Str)→Option (List (Str × Str))
 | [],acc=>some acc
 |n::r,acc=>if isOf old n then(if qB8 (qA4 (qBf old new n))then qCP old new r (acc++ [(n,qA4 (qBf old new n))])else none)else qCP old new r acc
theorem renGo_n{old new:Str}{acc:List (Str × Str)}:qCP old new [] acc=some acc:=rfl
theorem qGR{old new n:Str}{r:List Str}{acc:List (Str × Str)}:qCP old new (n::r) acc=if isOf old n then(if qB8 (qA4 (qBf old new n))then qCP old new r (acc++ [(n,qA4 (qBf old new n))])else none)else qCP old new r acc:=rfl
noncomputable def StoreT.renPairs(S:StoreT)(old new:Str):Option (List (Str × Str)):=(qCP old new S.names []).bind λps=>if ps.any (λp=>(pget S.boxes p.2).isSome)then none else some ps
theorem qFY(S:StoreT):S.names.length=S.boxes.length:=by unfold StoreT.names qCF;rw[List.length_mergeSort,List.length_map]
theorem names_mem{n:Str}:n∈S.names ↔ n∈S.boxes.map (·.1):=(List.mergeSort_perm _ _).mem_iff
section
theorem qDg{old new:Str}(hs:StAt F σ a M S)(hz:S.boxes.length < 64)(hk:∀p∈S.boxes,p.1.length≤100000)(ho:old.length≤100000)(hn:new.length≤100000)
  (h:∀ps,S.renPairs old new=some ps→Q (.lst (ps.map qBk)) σ)(hx:S.renPairs old new=none→X 76 σ):FN w os (lv+6) 558 [.obj a,.str old,.str new] σ Q X:=by
 have hnl:=qFY S
 refine qCt ?_
 refine qA5 ["store","old","new"] rfl (len3 λ_ _ _=>rfl) λA fr L=>?_
 walk_at"e1"
 walk_at"e1"
 refine qBP ?_
 walk_at"e"
 intro b nb
 have hs1:=hs.newN nb (.list [])
 obtain⟨ad,h1,h2,ne⟩:=hs1.cells
 walk_at"e"
 refine qBA (J:=λd τ=>d= .lst (S.names.map .str)∧τ=σ.set b (.list [])) rfl ?_ ?_
 ·walk_at"e"
  refine(.mk _ _ (qAQ (f:=454) h1) (qAJ rfl) ?_)
  walk_at"e"
  exact qA1 (lv:=1) rfl (by walk_at"lv") (qCT (lv:=0) hs1 hz ⟨rfl,rfl⟩)
 rintro d τ ⟨rfl,rfl⟩
 refine(.mk _ (λ_=>True) (qAN rfl) (λi ρ τ1=>ρ.lookup ("pairs":Str)=some (.obj b)∧ρ.lookup ("store":Str)=some (.obj a)∧ρ.lookup ("old":Str)=some (.str old)∧ρ.lookup ("new":Str)=some (.str new)∧∃acc,τ1=σ.set b (.list (acc.map qBk))∧qCP old new (S.names.drop i) acc=qCP old new S.names []∧acc.length≤i)
  (y05 rfl rfl rfl rfl ⟨[],rfl,rfl,Nat.le_refl _⟩) (λ_ _ _ _=>trivial) ?_ ?_)
 ·rintro i ρ1 τ1 d hd ⟨q1,q2,q3,q4,acc,rfl,q5,q6⟩
  rw[List.getElem?_map]at hd
  obtain⟨y,hy,rfl⟩:=Option.map_eq_some_iff.mp hd
  have hi:=(List.getElem?_eq_some_iff.mp hy).1
  have hdr:S.names.drop i=y::S.names.drop (i+1):=by
   rw[List.drop_eq_getElem_cons hi]
   congr 1
   exact(List.getElem?_eq_some_iff.mp hy).2
  obtain⟨p,hp,rfl⟩:=List.mem_map.mp (names_mem.mp (List.mem_of_getElem? hy))
  have hyl:=hk p hp
  rw[hdr,qGR]at q5
  unfold isOf at q5
  have hsl:=Txt.slice_le p.1 (some (old.length:Int)) none
  have hgl:(qBf old new p.1).length≤200000:=by unfold qBf;rw[e_len];omega
  have bad:qB8 (qA4 (qBf old new p.1))=false→(if qB8 (qA4 (qBf old new p.1))then qCP old new (S.names.drop (i+1)) (acc++ [(p.1,qA4 (qBf old new p.1))])else none)=qCP old new S.names []→S.renPairs old new=none:=λe1 e2=>by
   rw[e1]at e2
   unfold StoreT.renPairs
   rw[←e2];rfl
  walk_at"e"
  cases e1:p.1==old <;> simp only[e1,Bool.true_or,Bool.false_or,if_true]at q5
  ·walk_at"e"
   refine qA1 (lv:=1) rfl (by walk_at"lv") (f_below (lv:=0) (by omega) ?_)
   walk_at"e"
   cases e2:Txt.startswith p.1 (old++"/") <;> simp only[e2,Bool.false_eq_true,if_false,if_true]at q5
   ·walk_at"e"
    exact(y05 (by walk_at"nm") (by walk_at"nm") (by walk_at"nm") (by walk_at"nm") ⟨acc,rfl,q5,by omega⟩)
   ·walk_at"e"
    refine(.mk _ _ (qB5 (Sg.set_same _ _ _)) qAD ?_)
    walk_at"e"
    refine qE6 (by walk_at"sz") ?_
    walk_at"e"
    refine qDK ?_ (by walk_at"sz")
    refine qHU (by walk_at"sz") ?_
    walk_at"e"
    refine qA1 (lv:=5) rfl (by walk_at"lv") (qBt (lv:=0) (show(qBf old new p.1).length≤1000000 by omega) (λe3=>?_) λe3=>(y12 σ (Sg.sub_set nb) (hx (bad e3 q5))))
    rw[if_pos (show qB8 (qA4 (qBf old new p.1))=true from e3)]at q5
    walk_at"e"
    refine qBQ (Sg.set_same _ _ _) (by walk_at"sm") ?_
    rw[Sg.set_set]
    walk_at"e"
    exact(y05 (by walk_at"nm") (by walk_at"nm") (by walk_at"nm") (by walk_at"nm") ⟨acc++ [(p.1,qA4 (qBf old new p.1))],by rw[List.map_append];rfl,q5,by rw[List.length_append];exact Nat.succ_le_succ q6⟩)
  ·walk_at"e"
   refine(.mk _ _ (qB5 (Sg.set_same _ _ _)) qAD ?_)
   walk_at"e"
   refine qE6 (by walk_at"sz") ?_
   walk_at"e"
   refine qDK ?_ (by walk_at"sz")
   refine qHU (by walk_at"sz") ?_
   walk_at"e"
   refine qA1 (lv:=5) rfl (by walk_at"lv") (qBt (lv:=0) (show(qBf old new p.1).length≤1000000 by omega) (λe3=>?_) λe3=>(y12 σ (Sg.sub_set nb) (hx (bad e3 q5))))
   rw[if_pos (show qB8 (qA4 (qBf old new p.1))=true from e3)]at q5
   walk_at"e"
   refine qBQ (Sg.set_same _ _ _) (by walk_at"sm") ?_
   rw[Sg.set_set]
   walk_at"e"
   exact(y05 (by walk_at"nm") (by walk_at"nm") (by walk_at"nm") (by walk_at"nm") ⟨acc++ [(p.1,qA4 (qBf old new p.1))],by rw[List.map_append];rfl,q5,by rw[List.length_append];exact Nat.succ_le_succ q6⟩)
 ·rintro ρ1 τ1 ⟨q1,q2,q3,q4,acc,rfl,q5,q6⟩
  rw[List.length_map,List.drop_length,renGo_n]at q5
  have hs2:StAt F (σ.set b (.list (acc.map qBk))) a M S:=hs.newN nb _
  have hr:S.renPairs old new=if acc.any (λp=>(pget S.boxes p.2).isSome)then none else some acc:=by unfold StoreT.renPairs;rw[←q5];rfl
  walk_at"e"
  refine qBA (J:=λd τ=>d= .obj b∧τ=σ.set b (.list (acc.map qBk))) rfl (by walk_at"e";exact⟨rfl,rfl⟩) ?_
  rintro d τ ⟨rfl,rfl⟩
  refine(.mk _ _ (qDI rfl (Sg.set_same _ _ _)) (λi ρ τ1=>ρ.lookup ("pairs":Str)=some (.obj b)∧ρ.lookup ("store":Str)=some (.obj a)∧τ1=σ.set b (.list (acc.map qBk))∧(acc.take i).any (λp=>(pget S.boxes p.2).isSome)=false) (y04 q1 q2 rfl rfl) (λ_ _ _ q=>q.2.2.1▸Sg.set_same _ _ _) ?_ ?_)
  ·rintro i ρ2 τ2 d hd ⟨r1,r2,rfl,r3⟩
   rw[List.getElem?_map]at hd
   obtain⟨p,hp,rfl⟩:=Option.map_eq_some_iff.mp hd
   have hm:=List.mem_of_getElem? hp
   unfold qBk
   walk_at"e"
   refine qA1 (lv:=4) rfl (by walk_at"lv") (qCn (lv:=0) hs2 (λe=>?_) λe=>(y12 σ (Sg.sub_set nb) (hx (by rw[hr,if_pos (List.any_eq_true.mpr (y12 p hm e))]))))
   walk_at"e"
   refine(y04 (by walk_at"nm") (by walk_at"nm") rfl ?_)
   rw[List.take_add_one,hp,List.any_append,r3]
   simp[e]
  ·rintro ρ2 τ2 ⟨r1,r2,rfl,r3⟩
   rw[List.length_map,List.take_length]at r3
   walk_at"e1"
   walk_at"e1"
   refine qCq ?_
   walk_at"e"
   refine(.mk b _ rfl (Sg.set_same _ _ _) ?_)
   refine(y12 σ ?_ (h acc (by rw[hr,if_neg (by rw[r3];decide)])))
   rw[Sg.del_set nb]
   exact .refl _
end
noncomputable def StoreT.renInbox(S:StoreT)(k:Str)(b:BoxT)(x:Str):Option (D × StoreT):=
 if !S.valid S.nextv then none else if b.full 1 then none else
  let S1:StoreT:= {S with boxes:=pset S.boxes x (boxN x S.nextv),nextv:=S.nextv+1}
  let r:=qAE (boxN x S.nextv) [] (b.sel (b.letters.map LetT.uid))
  let S2:=S1.put x r.1
  some (.lst [qBk ("INBOX",x)],match pget S2.boxes k with
   |some b2=>S2.put k (b2.expunge (r.2.map (·.1))).2
   |none=>S2)
noncomputable def qBR:List (Str × BoxT)→List (Str × Str)→List BoxT × List (Str × BoxT)
 |B,[]=>([],B)
 |B,p::r=>match pget B p.1 with
  |some b=>(b::(qBR (pdel B p.1) r).1,(qBR (pdel B p.1) r).2)
  |none=>([],B)
theorem popGo_n{B:List (Str × BoxT)}:qBR B []=([],B):=rfl
theorem qGU{B:List (Str × BoxT)}{p:Str × Str}{r:List (Str × Str)}:qBR B (p::r)=match pget B p.1 with
  |some b=>(b::(qBR (pdel B p.1) r).1,(qBR (pdel B p.1) r).2)
  |none=>([],B):=rfl
noncomputable def qEi:List (Str × BoxT)→List BoxT→List (Str × Str)→List (Str × BoxT)
 |B,b::bs,p::ps=>qEi (pset B p.2 {b with name:=p.2}) bs ps
 |B,_,_=>B
theorem putGo_c{B:List (Str × BoxT)}{b:BoxT}{bs:List BoxT}{p:Str × Str}{ps:List (Str × Str)}:qEi B (b::bs) (p::ps)=qEi (pset B p.2 {b with name:=p.2}) bs ps:=rfl
noncomputable def StoreT.moved(S:StoreT)(ps:List (Str × Str)):StoreT:= {S with boxes:=qEi (qBR S.boxes ps).2 (qBR S.boxes ps).1 ps}
noncomputable def StoreT.rename(S:StoreT)(old new:Str):Option (D × StoreT):=(pget S.boxes (qA4 old)).bind λb=>if !qB8 (qA4 new)then none else if(pget S.boxes (qA4 new)).isSome then none else if b.name=="INBOX" then S.renInbox (qA4 old) b (qA4 new)else(S.renPairs b.name (qA4 new)).bind λps=>some (.lst (ps.map qBk),S.moved ps)
theorem qHi{old new:Str}{ns:List Str}{acc ps:List (Str × Str)}(e:qCP old new ns acc=some ps):ps.map (·.1)=acc.map (·.1)++ns.filter (isOf old):=by
 induction ns generalizing acc with
 |nil=>cases Option.some.inj e;exact(List.append_nil _).symm
 |cons n r ih=>
  rw[qGR]at e
  cases q:isOf old n <;> simp only[q,Bool.false_eq_true,if_false,if_true]at e
  ·rw[ih e,List.filter_cons_of_neg (by rw[q];decide)]
  ·split at e
   ·rw[ih e,List.filter_cons_of_pos q];simp
   ·cases e
theorem qDS{old new:Str}{ps:List (Str × Str)}(e:S.renPairs old new=some ps):qCP old new S.names []=some ps:=by
 obtain⟨qs,h,e⟩:=matN e
 exact Option.some.inj (iteN e).2▸h
theorem popGo_ok{ps:List (Str × Str)}{B:List (Str × BoxT)}(nd:(ps.map (·.1)).Nodup)(h:∀p∈ps,(pget B p.1).isSome=true):(qBR B ps).1.length=ps.length:=by
 induction ps generalizing B with
 |nil=>rfl
 |cons p r ih=>
  rw[qGU]
  rw[List.map_cons,List.nodup_cons]at nd
  obtain⟨b,e⟩:=Option.isSome_iff_exists.mp (h p List.mem_cons_self)
  rw[e]
  show(qBR (pdel B p.1) r).1.length+1=r.length+1
  rw[ih nd.2 λq hq=>(by
   rw[qIZ,if_neg (λk=>nd.1 (by rw[←k];exact List.mem_map_of_mem hq))]
   exact h q (List.mem_cons_of_mem _ hq))]
theorem qEh{old new:Str}{ps:List (Str × Str)}(nd:(S.boxes.map (·.1)).Nodup)(e:S.renPairs old new=some ps):(qBR S.boxes ps).1.length=ps.length∧ps.length≤S.boxes.length:=by
 have k:=qHi (qDS e)
 simp only[List.map_nil,List.nil_append]at k
 have hn:S.names.Nodup:=(List.mergeSort_perm _ _).nodup_iff.mpr nd
 refine⟨popGo_ok (by rw[k];exact hn.sublist List.filter_sublist) λp hp=>?_,?_⟩
 ·have hm:p.1∈S.names.filter (isOf old):=by rw[←k];exact List.mem_map_of_mem hp
  obtain⟨q,hq,e⟩:=List.mem_map.mp (names_mem.mp (List.mem_filter.mp hm).1)
  cases z:pget S.boxes p.1 with
  |some b=>rfl
  |none=>exact absurd e (pget_none.mp z q hq)
 ·have:=congrArg List.length k
  rw[List.length_map]at this
  rw[this,←qFY]
  exact List.length_filter_le _ _
section
theorem qEA{k:Str}{b:BoxT}(hs:StAt F σ a M S)(e1:pget M k=some ab)(e2:pget S.boxes k=some b)(e3:pget S.boxes x=none)(hbo:b.Ok)(hz:S.boxes.length < 64)
  (h:∀r S',S.renInbox k b x=some (r,S')→∀τ M',StAt F τ a M' S'→Q r τ)(hx:S.renInbox k b x=none→X 76 σ):FN w os (lv+9) 570 [.obj a,.obj ab,.str x] σ Q X:=by
 have H:Out (S.renInbox k b x) (λr S'=>∀τ M',StAt F τ a M' S'→Q r τ) (X 76 σ):=⟨h,hx⟩
 clear h hx
 obtain⟨ad,h1,h2,ne⟩:=hs.cells
 obtain⟨b',e2',G,hbx,_,_⟩:=hs.at' e1
 obtain rfl:b=b':=by rw[e2]at e2';injection e2'
 have hz1:b.letters.length≤60:=hbo.zl
 have hz2:b.gone.length≤1000:=hbo.zg
 have hk:=hs.keys.1
 have hl:M.length=S.boxes.length:=by have:=congrArg List.length hk;simpa using this
 have hkx:k≠x:=λq=>by rw[q,e3]at e2;cases e2
 refine qA5 ["store","inbox","name"] rfl (len3 λ_ _ _=>rfl) λA fr L=>?_
 walk_at"e"
 refine qA1 (lv:=4) rfl (by walk_at"lv") (qBv (lv:=0) hs (λq=>?_) H.nt)
 have H:=H.nf q
 walk_at"e"
 refine qA1 (lv:=4) rfl (by walk_at"lv") (qAV (lv:=0) hbx (λq=>?_) λq=>H.pt (decide_eq_true q))
 have h:=(H.pf (decide_eq_false q)).so rfl
 walk_at"e"
 refine qA1 (lv:=2) rfl (by walk_at"lv") (f_box (lv:=0) λac τ nac hb=>?_)
 have k1:=hb.sub _ _ h1
 have k2:=hb.sub _ _ h2
 walk_at"e"
 refine I_dS k2 (by unfold mapV;rw[List.length_map];unfold sizeLine;omega) ?_
 have hs2:=hs.add h1 hb e3
 have k3:(τ.set ad (.dstr (pset (mapV (.obj ·) M) x (.obj ac)))) a=some (S.mo ad):=by rw[Sg.set_ne _ _ ne];exact k1
 have hs3:=hs2.flds (S':= {S with boxes:=pset S.boxes x (boxN x S.nextv),nextv:=S.nextv+1}) k3 rfl
 have e1':pget (pset M x ac) k=some ab:=by rw[qAL,if_neg hkx];exact e1
 obtain⟨b3,e4,G3,hb3,_,_⟩:=hs3.at' e1'
 obtain rfl:b=b3:=by
  have:pget (pset S.boxes x (boxN x S.nextv)) k=some b3:=e4
  rw[qAL,if_neg hkx,e2]at this;injection this
 obtain⟨g,e5,G4,hg4,_,back⟩:=hs3.at' (k:=x) (ab:=ac) (by rw[qAL,if_pos rfl])
 obtain rfl:boxN x S.nextv=g:=by
  have:pget (pset S.boxes x (boxN x S.nextv)) x=some g:=e5
  rw[qAL,if_pos rfl]at this;injection this
 obtain⟨al3,k4,_⟩:=hb3.get
 have hsl:=qEg b (b.letters.map LetT.uid)
 rw[List.length_map]at hsl
 obtain⟨c1,c2,c3,c4,c5⟩:=qC5 (b.sel (b.letters.map LetT.uid)) (boxN x S.nextv) []
 simp only[List.length_nil]at c2
 have c0:(boxN x S.nextv).letters.length=0:=rfl
 walk_at"e"
 refine(.mk _ _ (qAQ (f:=167) k4) (qAJ rfl) ?_)
 walk_at"e"
 refine qA1 (lv:=1) rfl (by walk_at"lv") (qEO (lv:=0) hb3 (by omega) ?_)
 walk_at"e"
 refine qA1 (lv:=8) rfl (by walk_at"lv") (qCA (lv:=0) hb3 hg4 (by omega) (by omega) (by rw[List.length_map];omega) hbo.fl λυ hυ=>?_)
 have hS2:=back _ _ hυ
 obtain⟨b2,e6,G5,hb5,_,back2⟩:=hS2.at' e1'
 obtain rfl:b=b2:=by
  have:pget (pset (pset S.boxes x (boxN x S.nextv)) x _) k=some b2:=e6
  rw[qAL,if_neg hkx,qAL,if_neg hkx,e2]at this;injection this
 refine(y25 G5 b hb5 (by omega) (by omega) (by omega) (λφ hφ=>?_))
 have hS3:=back2 _ _ hφ
 walk_at"e"
 refine qAR ?_
 walk_at"e"
 have e7:pget ((({S with boxes:=pset S.boxes x (boxN x S.nextv),nextv:=S.nextv+1}:StoreT).put x (qAE (boxN x S.nextv) [] (b.sel (b.letters.map LetT.uid))).1).boxes) k=some b:=e6
 rw[e7]at h
 exact h φ _ hS3
theorem f_rename{old new:Str}(hs:StAt F σ a M S)(hb:∀p∈S.boxes,p.2.Ok)(hz:S.boxes.length < 60)(hk:∀p∈S.boxes,p.1.length≤90000∧p.2.name=p.1)(ho:old.length≤90000)(hn:new.length≤90000)
  (h:∀r S',S.rename old new=some (r,S')→∀τ M',StAt F τ a M' S'→Q r τ)(hx:S.rename old new=none→X 76 σ):FN w os (lv+10) 563 [.obj a,.str old,.str new] σ Q X:=by
 have H:Out (S.rename old new) (λr S'=>∀τ M',StAt F τ a M' S'→Q r τ) (X 76 σ):=⟨h,hx⟩
 clear h hx
 obtain⟨ad,h1,h2,ne⟩:=hs.cells
 have hnn:=qCQ new
 refine qA5 ["store","old","new"] rfl (len3 λ_ _ _=>rfl) λA fr L=>?_
 walk_at"e"
 refine(.mk _ _ (qAQ (f:=447) h1) (qAJ rfl) ?_)
 walk_at"e"
 refine qA1 (lv:=4) rfl (by walk_at"lv") (qAS (lv:=0) hs (by omega) (λab b e1 e2=>?_) H.bn)
 have H:=H.bs e2
 obtain⟨ab',e1',G,hbx,_,back⟩:=hs.box e2
 obtain rfl:ab=ab':=by rw[e1]at e1';injection e1'
 have hbo:=hb _ (qAY e2)
 have hbk:=hk _ (qAY e2)
 have hbl:b.name.length≤90000:=by rw[hbk.2];exact hbk.1
 obtain⟨al,k1,_⟩:=hbx.get
 walk_at"e"
 refine qA1 (lv:=5) rfl (by walk_at"lv") (qBt (lv:=0) (by omega) (λq=>?_) H.nt)
 have H:=H.nf q
 walk_at"e"
 refine qA1 (lv:=4) rfl (by walk_at"lv") (qCn (lv:=0) hs (λq2=>?_) H.pt)
 have H:=H.pf (congrArg Option.isSome q2)
 walk_at"e"
 cases q3:b.name=="INBOX"
 ·walk_at"e"
  refine qA1 (lv:=6) rfl (by walk_at"lv") (qDg (lv:=0) hs (by omega) (λp hp=>by have:=(hk p hp).1;omega) (by omega) (by omega) (λps e4=>?_) (H.cf q3).bn)
  have h:=((H.cf q3).bs e4).so rfl
  obtain⟨p1,p2⟩:=qEh (by rw[←hs.keys.1];exact hs.keys.2) e4
  walk_at"e1"
  refine qAi (cl:=[("store",L+1)]) (ρ':=[("store",.obj a)]) rfl ⟨rfl,by kernel_rfl!,rfl,qAH rfl (.inl rfl) qAA,(y03 (.inl rfl) rfl (by walk_at"nm")),trivial⟩ ?_
  unfold COMP
  walk_at"e"
  generalize hB:qBR S.boxes ps=pr at p1
  refine(.mk _ (λ_=>True) (by rw[List.length_map];unfold sizeLine;omega) (qAN rfl) (λi ys τ=>∃(F':Sg) (sl:List Slot) (L':List (Str × Addr)) (B':List (Str × BoxT)),ys=sl.map (λs=>D.obj s.ab)∧Fam F F' sl∧StAt F' τ a L' {S with boxes:=B'}∧
   (qBR B' (ps.drop i)).2=pr.2∧sl.map Slot.b++(qBR B' (ps.drop i)).1=pr.1∧(qBR B' (ps.drop i)).1.length=(ps.drop i).length∧B'.length≤S.boxes.length)
   (y47 F [] M S.boxes rfl ⟨.refl _,(by intro _ h;cases h),List.nodup_nil,List.nodup_nil,(by intro _ h;cases h)⟩ hs (by rw[List.drop_zero,hB]) (by rw[List.drop_zero,hB];rfl) (by rw[List.drop_zero,hB];exact p1) (Nat.le_refl _)) (λ_ _ _ _=>trivial) ?_ ?_)
  ·rintro i ys τ1 d hd ⟨F',sl,L',B',rfl,hfam,hst,r1,r2,r3,r4⟩ C
   rw[List.getElem?_map]at hd
   obtain⟨p,hp,rfl⟩:=Option.map_eq_some_iff.mp hd
   have hi:=(List.getElem?_eq_some_iff.mp hp).1
   have hdr:ps.drop i=p::ps.drop (i+1):=by
    rw[List.drop_eq_getElem_cons hi]
    congr 1
    exact(List.getElem?_eq_some_iff.mp hp).2
   rw[hdr,qGU]at r1 r2 r3
   obtain⟨ad',j1,j2,jne⟩:=hst.cells
   rcases hst.pair p.1 with⟨z1,z2⟩| ⟨ac,t,z1,z2⟩
   ·have z2:pget B' p.1=none:=z2
    rw[z2]at r3;cases r3
   have z2:pget B' p.1=some t:=z2
   rw[z2]at r1 r2 r3
   obtain⟨s,F'',e5,e6,e7,e8⟩:=hst.popB j1 z2
   obtain rfl:ac=s.ab:=by rw[z1]at e6;injection e6
   subst e5
   have hl':L'.length=B'.length:=by have:=congrArg List.length hst.keys.1;simpa using this
   refine .mk ?_
   unfold qBk
   walk_at"e"
   refine(.mk _ _ (GM_pop j2) qAD ?_)
   walk_at"e"
   refine qBK (k:=0) rfl rfl (by decide) ?_
   walk_at"e"
   refine C_popS j2 (d:=.obj s.ab) (by rw[qAd,z1];rfl) (by unfold mapV;rw[List.length_map];unfold sizeLine;omega) ?_
   refine(y47 F'' (sl++ [s]) _ _ (by rw[List.map_append];rfl) ((e7.join hfam).perm List.perm_append_comm) e8 r1 ?_ ?_ ?_)
   ·rw[List.map_append,List.append_assoc];exact r2
   ·exact Nat.succ.inj r3
   ·exact Nat.le_trans (List.length_filter_le _ _) r4
  ·rintro ys τ1 ⟨F',sl,L',B',rfl,hfam,hst,r1,r2,r3,r4⟩ _
   rw[List.length_map,List.drop_length,popGo_n]at r1 r2
   simp only[List.append_nil]at r1 r2
   have hsl:sl.length=ps.length:=by rw[←p1,←r2,List.length_map]
   unfold StoreT.moved at h
   rw[hB,←r1,←r2]at h
   obtain⟨ad',j1,j2,jne⟩:=hst.cells
   walk_at"e"
   refine qGA rfl rfl ?_
   walk_at"e"
   refine(y03 rfl qCZ ?_)
   walk_at"e"
   refine(y44 _ _ (sl.map (λs=>D.obj s.ab)) (ps.map qBk) rfl ZSrc.lst ZSrc.lst (.mk (λi ρ τ=>ρ.lookup ("store":Str)=some (.obj a)∧ρ.lookup ("pairs":Str)=some (.lst (ps.map qBk))∧∃(F':Sg) (L':List (Str × Addr)) (B2:List (Str × BoxT)),Fam F F' (sl.drop i)∧StAt F' τ a L' {S with boxes:=B2}∧
    qEi B2 ((sl.drop i).map Slot.b) (ps.drop i)=qEi B' (sl.map Slot.b) ps∧B2.length≤60+i)
    (y03 (by walk_at"nm") (by walk_at"nm") ⟨F',L',B',hfam,hst,rfl,by omega⟩) ?_ ?_))
   ·rintro i ρ2 τ2 d e hd he ⟨q4,q5,F2,L2,B2,hfam2,hst2,r5,r6⟩
    rw[List.getElem?_map]at hd he
    obtain⟨s,hsx,rfl⟩:=Option.map_eq_some_iff.mp hd
    obtain⟨p,hpx,rfl⟩:=Option.map_eq_some_iff.mp he
    obtain⟨hs1,hs2⟩:=List.getElem?_eq_some_iff.mp hsx
    obtain⟨hp1,hp2⟩:=List.getElem?_eq_some_iff.mp hpx
    rw[List.drop_eq_getElem_cons hs1,List.drop_eq_getElem_cons hp1,hs2,hp2,List.map_cons,putGo_c]at r5
    rw[List.drop_eq_getElem_cons hs1,hs2]at hfam2
    have k2:τ2 s.ab=some (s.b.mo s.al):=hst2.subF _ _ (hfam2.ok s List.mem_cons_self).1
    have hfam3:=hfam2.flds (b':= {s.b with name:=p.2}) rfl
    have hst3:=hst2.set (hfam2.ok s List.mem_cons_self).1 (({s.b with name:=p.2}:BoxT).mo s.al)
    obtain⟨f1,f2⟩:=Fam.split (P1:=[(⟨s.ab,s.al,{s.b with name:=p.2}⟩:Slot)]) (P2:=sl.drop (i+1)) hfam3
    obtain⟨ad3,m1,m2,mne⟩:=hst3.cells
    have hst4:=hst3.absorb (k:=p.2) m1 f1
    have hl3:L2.length=B2.length:=by have:=congrArg List.length hst2.keys.1;simpa using this
    unfold qBk
    walk_at"e"
    refine qBK (k:=1) rfl rfl (by decide) ?_
    walk_at"e"
    refine qBK (k:=1) rfl rfl (by decide) ?_
    refine I_dS m2 (by unfold mapV;rw[List.length_map];unfold sizeLine;omega) ?_
    walk_at"e"
    exact(y03 (by walk_at"nm") (by walk_at"nm") ⟨_,_,_,f2,hst4,r5,Nat.le_trans (qBG _ _ _) (Nat.succ_le_succ r6)⟩)
   ·rintro ρ2 τ2 ⟨q4,q5,F2,L2,B2,hfam2,hst2,r5,r6⟩
    rw[List.length_map,List.length_map,hsl,Nat.min_self,List.drop_of_length_le (Nat.le_of_eq hsl),List.drop_length]at r5
    rw[List.length_map,List.length_map,hsl,Nat.min_self,List.drop_of_length_le (Nat.le_of_eq hsl)]at hfam2
    have hB2:B2=qEi B' (sl.map Slot.b) ps:=r5
    walk_at"e"
    refine h _ _ (hB2▸hst2.weak hfam2.sub)
 ·walk_at"e"
  exact qA1 (lv:=9) rfl (by walk_at"lv") (qEA (lv:=0) hs e1 e2 q2 hbo (by omega) (H.ct q3).1 (H.ct q3).2)
end
inductive Deed where
 |create(n:Str)(v:Int)
 |delete(n:Str)
 |rename(n m:Str)
 |append(n:Str)(fs:List Str)(i:Int)(o:Array UInt8)
 |flags(n:Str)(u:Int)(fs:List Str)
 |store(n:Str)(us:List Int)(way:Str)(fs:List Str)(u:Int)
 |expunge(n:Str)(us:List Int)
 |copy(mv:Bool)(n:Str)(us:List Int)(g:Str)
 |sub(n:Str)
 |unsub(n:Str)
 |forget(n:Str)(m:Int)
 |bad(x:Str)(vs:List V)
noncomputable def qFO(fs:List Str):V:=.tup (fs.map .str)
noncomputable def qFc(us:List Int):V:=.tup (us.map .int)
noncomputable def Deed.wrd:Deed→Str
 | .create .. =>"create"| .delete .. =>"delete"| .rename .. =>"rename"| .append .. =>"append"| .flags .. =>"flags"| .store .. =>"store"| .expunge .. =>"expunge"
 | .copy mv .. =>if mv then "move" else "copy"
 | .sub .. =>"subscribe"| .unsub .. =>"unsubscribe"| .forget .. =>"forget"| .bad x _=>x
noncomputable def Deed.vls:Deed→List V
 | .create n v=>[.str n,.int v]| .delete n=>[.str n]| .rename n m=>[.str n,.str m]| .append n fs i o=>[.str n,qFO fs,.int i,.bytes o]| .flags n u fs=>[.str n,.int u,qFO fs]
 | .store n us way fs u=>[.str n,qFc us,.str way,qFO fs,.int u]| .expunge n us=>[.str n,qFc us]| .copy _ n us g=>[.str n,qFc us,.str g]
 | .sub n=>[.str n]| .unsub n=>[.str n]| .forget n m=>[.str n,.int m]| .bad _ vs=>vs
noncomputable def Deed.val(d:Deed):V:=.tup (.str d.wrd::d.vls)
noncomputable def StoreT.forget(S:StoreT)(n:Str)(m:Int):Option (D × StoreT):=(pget S.boxes (qA4 n)).bind λb=>some (.int (b.forget m).1,S.put (qA4 n) (b.forget m).2)
noncomputable def StoreT.apply(S:StoreT):Deed→Option (D × StoreT)
 | .create n v=>S.create n v| .delete n=>S.delete n| .rename n m=>S.rename n m| .append n fs i o=>S.append n fs i o| .flags n u fs=>S.flag n u fs| .store n us way fs u=>S.store n us way fs u
 | .expunge n us=>S.expunge n us| .copy mv n us g=>S.copyMove n us g mv| .sub n=>S.subscribe n| .unsub n=>S.unsubscribe n| .forget n m=>S.forget n m| .bad .. =>none
def fsOk(fs:List Str):Prop:=(∀x∈fs,x∈flagsL)∧fs.length≤5
def Deed.ok:Deed→Prop
 | .create n _=>n.length≤100| .delete n=>n.length≤100| .rename n m=>n.length≤100∧m.length≤100| .append n fs _ o=>n.length≤100∧fsOk fs∧o.size≤10| .flags n _ fs=>n.length≤100∧fsOk fs
 | .store n us way fs _=>n.length≤100∧us.length≤4∧fsOk fs∧(way="+"∨way="-"∨way="=")| .expunge n us=>n.length≤100∧us.length≤4| .copy _ n us g=>n.length≤100∧us.length≤4∧g.length≤100
 | .sub n=>n.length≤100| .unsub n=>n.length≤100| .forget n _=>n.length≤100
 | .bad x vs=>qB9 x vs=false∧vs.length≤10∧∀v∈vs,∀l,v= .tup l→l.length≤10
structure BoxT.Inv(n:Nat)(k:Str)(b:BoxT):Prop where
 kl:k.length≤200 * (n+1)
 nm:b.name=k
 ll:b.letters.length≤4 * n
 gl:b.gone.length≤48 * n
 fl:∀l∈b.letters,FlagsOk l.flags
structure StoreT.Inv(n:Nat)(S:StoreT):Prop where
 nb:S.boxes.length≤n+1
 bx:∀p∈S.boxes,p.2.Inv n p.1
 sb:S.subs.length≤n
 nv:2≤S.nextv∧S.nextv≤2+4 * n
theorem BoxT.Inv.Ok{k:Str}{b:BoxT}(h:b.Inv n k)(hn:n≤12):b.Ok:=⟨by have:=h.ll;omega,by have:=h.gl;omega,h.fl⟩
theorem qAb{w e sh:Str}{vs:List V}(cs:List Nat)(h1:shapesL.find? (λp=>p.2.1==w)=some (e,w,sh))(h2:(vs.length==sh.length)=true)(h0:sh.cps.toList=cs)(h3:qC9 vs cs=true):qB9 w vs=true:=by
 unfold qB9;rw[h1];show(vs.length==sh.length && qC9 vs sh.cps.toList)=true;rw[h2,h0,h3];rfl
theorem qDd(x:Str):qCl (.str x) ⟨#[116]⟩=true:=by unfold qCl V.toD;rfl
theorem qIr(i:Int):qCl (.int i) ⟨#[110]⟩=true:=by unfold qCl V.isNum V.toD;rfl
theorem fit_o(b:Array UInt8):qCl (.bytes b) ⟨#[111]⟩=true:=by unfold qCl V.toD;rfl
theorem fit_f(fs:List Str):qCl (qFO fs) ⟨#[102]⟩=true:=by
 show((fs.map V.str).map λv=>isi v.toD "str").all id=true
 rw[List.map_map,List.all_map,List.all_eq_true]
 intro x _;unfold Function.comp V.toD;rfl
theorem fit_u(us:List Int):qCl (qFc us) ⟨#[117]⟩=true:=by
 show((us.map V.int).map V.isNum).all id=true
 rw[List.map_map,List.all_map,List.all_eq_true]
 intro x _;unfold Function.comp V.isNum V.toD;rfl
theorem Deed.checks{d:Deed}(hb:∀x vs,d≠.bad x vs):qB9 d.wrd d.vls=true:=by
 cases d with
 |bad x vs=>exact absurd rfl (hb x vs)
 |create n v=>exact qAb [116,110] rfl rfl rfl (by simp only[qAl,qAk,Deed.vls,qDd,qIr];rfl)
 |delete n=>exact qAb [116] rfl rfl rfl (by simp only[qAl,qAk,Deed.vls,qDd];rfl)
 |rename n m=>exact qAb [116,116] rfl rfl rfl (by simp only[qAl,qAk,Deed.vls,qDd];rfl)
 |append n fs i o=>exact qAb [116,102,110,111] rfl rfl rfl (by simp only[qAl,qAk,Deed.vls,qDd,qIr,fit_f,fit_o];rfl)
 |flags n u fs=>exact qAb [116,110,102] rfl rfl rfl (by simp only[qAl,qAk,Deed.vls,qDd,qIr,fit_f];rfl)
 |store n us way fs u=>exact qAb [116,117,116,102,110] rfl rfl rfl (by simp only[qAl,qAk,Deed.vls,qDd,qIr,fit_f,fit_u];rfl)
 |expunge n us=>exact qAb [116,117] rfl rfl rfl (by simp only[qAl,qAk,Deed.vls,qDd,fit_u];rfl)
 |copy mv n us g=>cases mv <;> exact qAb [116,117,116] rfl rfl rfl (by simp only[qAl,qAk,Deed.vls,qDd,fit_u];rfl)
 |sub n=>exact qAb [116] rfl rfl rfl (by simp only[qAl,qAk,Deed.vls,qDd];rfl)
 |unsub n=>exact qAb [116] rfl rfl rfl (by simp only[qAl,qAk,Deed.vls,qDd];rfl)
 |forget n m=>exact qAb [116,110] rfl rfl rfl (by simp only[qAl,qAk,Deed.vls,qDd,qIr];rfl)
theorem strsV_toD(fs:List Str):(qFO fs).toD= .tup (fs.map .str):=by
 unfold qFO V.toD;rw[V.toDs_map,List.map_map]
 congr 1
theorem intsV_toD(us:List Int):(qFc us).toD= .tup (us.map .int):=by
 unfold qFc V.toD;rw[V.toDs_map,List.map_map]
 congr 1
theorem Deed.toD(d:Deed):d.val.toD= .tup (.str d.wrd::d.vls.map V.toD):=by unfold Deed.val V.toD V.toDs;rw[V.toDs_map];unfold V.toD;rfl
noncomputable def bigOk:V→Bool
 | .tup l=>decide (l.length≤1000000)
 |_=>true
theorem Deed.sizes{d:Deed}(h:d.ok):d.vls.length≤1000∧∀v∈d.vls,∀l,v= .tup l→l.length≤1000000:=by
 cases d with
 |bad x vs=>exact⟨by have:=h.2.1;simp only[Deed.vls];omega,λv hv l e=>by have:=h.2.2 v hv l e;omega⟩
 |_=>
  refine⟨by simp[Deed.vls],?_⟩
  have k:∀vs:List V,vs.all bigOk=true→∀v∈vs,∀l,v= .tup l→l.length≤1000000:=λvs q v hv l e=>by
   have:=List.all_eq_true.mp q v hv
   rw[e]at this;exact of_decide_eq_true this
  refine k _ ?_
  simp only[Deed.ok,fsOk]at h
  simp[Deed.vls,List.all_cons,List.all_nil,bigOk,qFO,qFc,List.length_map]
  try omega
section
theorem qDl{d:Deed}(hs:StAt F σ a M S)(inv:S.Inv k)(hk:k≤12)(hd:d.ok)(h:∀r S',S.apply d=some (r,S')→∀τ M',StAt F τ a M' S'→Q r τ)(hx:S.apply d=none→X 76 σ):
  FN w os (lv+12) 646 [.obj a,d.val.toD] σ Q X:=by
 have hb:=inv.nb
 have hbo:∀p∈S.boxes,p.2.Ok:=λp hp=>(inv.bx p hp).Ok hk
 have ck:∀{z:D} {Q':D→Sg→Prop} {X':Addr→Sg→Prop},d.val.toD=z→(qB9 d.wrd d.vls=true→Q' .none σ)→(qB9 d.wrd d.vls=false→X' 76 σ)→FN w os 4 497 [z] σ Q' X':=λe q x=>
  e▸qDk (w:=w) (os:=os) (lv:=0) (x:=d.wrd) (vs:=d.vls) (Deed.sizes hd).1 (Deed.sizes hd).2 q x
 have hc:(∀x vs,d≠.bad x vs)→qB9 d.wrd d.vls=true:=Deed.checks
 cases d with
 |create n v=>
  have hd:n.length≤100:=hd
  have hc:=hc nofun
  have e:=Deed.toD (.create n v)
  simp only[Deed.wrd,Deed.vls,List.map_cons,List.map_nil,V.toD,strsV_toD,intsV_toD]at e
  rw[e]
  refine qA5 ["store","row"] rfl (len2 λ_ _=>rfl) λA fr L=>?_
  walk_at"g"
  refine qA1 (lv:=4) rfl (by walk_at"lv") (ck e (λ_=>?_) λe=>by rw[hc]at e;cases e)
  walk_at"g"
  exact qA1 (lv:=6) rfl (by walk_at"lv") (f_create (lv:=0) hs (by omega) (by omega) h hx)
 |delete n=>
  have hd:n.length≤100:=hd
  have hc:=hc nofun
  have e:=Deed.toD (.delete n)
  simp only[Deed.wrd,Deed.vls,List.map_cons,List.map_nil,V.toD,strsV_toD,intsV_toD]at e
  rw[e]
  refine qA5 ["store","row"] rfl (len2 λ_ _=>rfl) λA fr L=>?_
  walk_at"g"
  refine qA1 (lv:=4) rfl (by walk_at"lv") (ck e (λ_=>?_) λe=>by rw[hc]at e;cases e)
  walk_at"g"
  exact qA1 (lv:=5) rfl (by walk_at"lv") (f_delete (lv:=0) hs (by omega) (by omega) (λp hp=>(inv.bx p hp).nm) h hx)
 |rename n m=>
  obtain⟨hd,hd2⟩:=hd
  have hc:=hc nofun
  have e:=Deed.toD (.rename n m)
  simp only[Deed.wrd,Deed.vls,List.map_cons,List.map_nil,V.toD,strsV_toD,intsV_toD]at e
  rw[e]
  refine qA5 ["store","row"] rfl (len2 λ_ _=>rfl) λA fr L=>?_
  walk_at"g"
  refine qA1 (lv:=4) rfl (by walk_at"lv") (ck e (λ_=>?_) λe=>by rw[hc]at e;cases e)
  walk_at"g"
  exact qA1 (lv:=10) rfl (by walk_at"lv") (f_rename (lv:=0) hs hbo (by omega) (λp hp=>⟨by have:=(inv.bx p hp).kl;omega,(inv.bx p hp).nm⟩) (by omega) (by omega) h hx)
 |append n fs i o=>
  obtain⟨hd,hf,ho⟩:=hd
  have hc:=hc nofun
  have e:=Deed.toD (.append n fs i o)
  simp only[Deed.wrd,Deed.vls,List.map_cons,List.map_nil,V.toD,strsV_toD,intsV_toD]at e
  rw[e]
  refine qA5 ["store","row"] rfl (len2 λ_ _=>rfl) λA fr L=>?_
  walk_at"g"
  refine qA1 (lv:=4) rfl (by walk_at"lv") (ck e (λ_=>?_) λe=>by rw[hc]at e;cases e)
  walk_at"g"
  exact qA1 (lv:=7) rfl (by walk_at"lv") (f_append (lv:=0) hs (by omega) hbo hf.1 (by have:=hf.2;omega) (λr S' e τ=>h r S' e τ _) hx)
 |flags n u fs=>
  obtain⟨hd,hf⟩:=hd
  have hc:=hc nofun
  have e:=Deed.toD (.flags n u fs)
  simp only[Deed.wrd,Deed.vls,List.map_cons,List.map_nil,V.toD,strsV_toD,intsV_toD]at e
  rw[e]
  refine qA5 ["store","row"] rfl (len2 λ_ _=>rfl) λA fr L=>?_
  walk_at"g"
  refine qA1 (lv:=4) rfl (by walk_at"lv") (ck e (λ_=>?_) λe=>by rw[hc]at e;cases e)
  walk_at"g"
  exact qA1 (lv:=7) rfl (by walk_at"lv") (f_flag (lv:=0) hs (by omega) hbo hf.1 (by have:=hf.2;omega) (λr S' e τ=>h r S' e τ _) hx)
 |store n us way fs u=>
  obtain⟨hd,hu,hf,hw⟩:=hd
  have hc:=hc nofun
  have e:=Deed.toD (.store n us way fs u)
  simp only[Deed.wrd,Deed.vls,List.map_cons,List.map_nil,V.toD,strsV_toD,intsV_toD]at e
  rw[e]
  refine qA5 ["store","row"] rfl (len2 λ_ _=>rfl) λA fr L=>?_
  walk_at"g"
  refine qA1 (lv:=4) rfl (by walk_at"lv") (ck e (λ_=>?_) λe=>by rw[hc]at e;cases e)
  walk_at"g"
  exact qA1 (lv:=9) rfl (by walk_at"lv") (f_stores (lv:=0) hs (by omega) hbo (by omega) hf.1 (by have:=hf.2;omega) hw (λr S' e τ=>h r S' e τ _) hx)
 |expunge n us=>
  obtain⟨hd,hu⟩:=hd
  have hc:=hc nofun
  have e:=Deed.toD (.expunge n us)
  simp only[Deed.wrd,Deed.vls,List.map_cons,List.map_nil,V.toD,strsV_toD,intsV_toD]at e
  rw[e]
  refine qA5 ["store","row"] rfl (len2 λ_ _=>rfl) λA fr L=>?_
  walk_at"g"
  refine qA1 (lv:=4) rfl (by walk_at"lv") (ck e (λ_=>?_) λe=>by rw[hc]at e;cases e)
  walk_at"g"
  exact qA1 (lv:=5) rfl (by walk_at"lv") (qHw (lv:=0) hs (by omega) hbo (by omega) (λr S' e τ=>h r S' e τ _) hx)
 |copy mv n us g=>
  obtain⟨hd,hu,hg⟩:=hd
  cases mv
  ·have hc:=hc nofun
   have e:=Deed.toD (.copy false n us g)
   simp only[Deed.wrd,Deed.vls,List.map_cons,List.map_nil,V.toD,strsV_toD,intsV_toD,if_true,Bool.false_eq_true,if_false]at e
   rw[e]
   refine qA5 ["store","row"] rfl (len2 λ_ _=>rfl) λA fr L=>?_
   walk_at"g"
   refine qA1 (lv:=4) rfl (by walk_at"lv") (ck e (λ_=>?_) λe=>by rw[hc]at e;cases e)
   walk_at"g"
   exact qA1 (lv:=9) rfl (by walk_at"lv") (qCB (lv:=0) hs (by omega) (by omega) hbo (by omega) (λr S' e τ=>h r S' e τ _) hx)
  ·have hc:=hc nofun
   have e:=Deed.toD (.copy true n us g)
   simp only[Deed.wrd,Deed.vls,List.map_cons,List.map_nil,V.toD,strsV_toD,intsV_toD,if_true,Bool.false_eq_true,if_false]at e
   rw[e]
   refine qA5 ["store","row"] rfl (len2 λ_ _=>rfl) λA fr L=>?_
   walk_at"g"
   refine qA1 (lv:=4) rfl (by walk_at"lv") (ck e (λ_=>?_) λe=>by rw[hc]at e;cases e)
   walk_at"g"
   exact qA1 (lv:=9) rfl (by walk_at"lv") (qCB (lv:=0) hs (by omega) (by omega) hbo (by omega) (λr S' e τ=>h r S' e τ _) hx)
 |sub n=>
  have hd:n.length≤100:=hd
  have hc:=hc nofun
  have e:=Deed.toD (.sub n)
  simp only[Deed.wrd,Deed.vls,List.map_cons,List.map_nil,V.toD,strsV_toD,intsV_toD]at e
  rw[e]
  refine qA5 ["store","row"] rfl (len2 λ_ _=>rfl) λA fr L=>?_
  walk_at"g"
  refine qA1 (lv:=4) rfl (by walk_at"lv") (ck e (λ_=>?_) λe=>by rw[hc]at e;cases e)
  walk_at"g"
  exact qA1 (lv:=6) rfl (by walk_at"lv") (qGh (lv:=0) hs (by omega) (by have:=inv.sb;omega) h hx)
 |unsub n=>
  have hd:n.length≤100:=hd
  have hc:=hc nofun
  have e:=Deed.toD (.unsub n)
  simp only[Deed.wrd,Deed.vls,List.map_cons,List.map_nil,V.toD,strsV_toD,intsV_toD]at e
  rw[e]
  refine qA5 ["store","row"] rfl (len2 λ_ _=>rfl) λA fr L=>?_
  walk_at"g"
  refine qA1 (lv:=4) rfl (by walk_at"lv") (ck e (λ_=>?_) λe=>by rw[hc]at e;cases e)
  walk_at"g"
  exact qA1 (lv:=5) rfl (by walk_at"lv") (qEv (lv:=0) hs (by omega) (by have:=inv.sb;omega) h hx)
 |forget n m=>
  have hd:n.length≤100:=hd
  have hc:=hc nofun
  have e:=Deed.toD (.forget n m)
  simp only[Deed.wrd,Deed.vls,List.map_cons,List.map_nil,V.toD,strsV_toD,intsV_toD]at e
  rw[e]
  have H:Out (S.forget n m) (λr S'=>∀τ M',StAt F τ a M' S'→Q r τ) (X 76 σ):=⟨h,hx⟩
  clear h hx
  obtain⟨ad,h1,h2,ne⟩:=hs.cells
  refine qA5 ["store","row"] rfl (len2 λ_ _=>rfl) λA fr L=>?_
  walk_at"g"
  refine qA1 (lv:=4) rfl (by walk_at"lv") (ck e (λ_=>?_) λe=>by rw[hc]at e;cases e)
  walk_at"g"
  refine(.mk _ _ (qAQ (f:=447) h1) (qAJ rfl) ?_)
  walk_at"g"
  refine qA1 (lv:=4) rfl (by walk_at"lv") (qAS (lv:=0) hs (by omega) (λab b e1 e2=>?_) H.bn)
  obtain⟨ab',e1',G,hbx,_,back⟩:=hs.box e2
  obtain rfl:ab=ab':=by rw[e1]at e1';injection e1'
  have hz:=(hbo _ (qAY e2)).zg
  walk_at"g"
  exact qA1 (lv:=1) rfl (by walk_at"lv") (f_forget (lv:=0) hbx (by simp only at hz;omega) λτ hτ=>(H.bs e2).so rfl τ _ (back _ _ hτ))
 |bad x vs=>
  rw[Deed.toD]
  show FN w os (lv+12) 646 [.obj a,.tup (.str x::vs.map V.toD)] σ Q X
  refine qA5 ["store","row"] rfl (len2 λ_ _=>rfl) λA fr L=>?_
  walk_at"g"
  exact qA1 (lv:=4) rfl (by walk_at"lv") (ck (Deed.toD (.bad x vs)) (λe=>by rw[show qB9 (Deed.bad x vs).wrd (Deed.bad x vs).vls=false from hd.1]at e;cases e) λ_=>hx rfl)
end
theorem arRow{s F r c e:Nat}(hl:s - n=F+r)(hf:F=c+4+e):n+c+4+e≤s:=by
 have hp:0 < s - n:=Nat.lt_of_lt_of_le (Nat.lt_of_lt_of_le (Nat.succ_pos (c+3)) (Nat.le_trans (Nat.le_add_right (c+4) e) (Nat.le_of_eq hf.symm))) (hl▸Nat.le_add_right F r)
 have:=arFit hl.symm (Nat.le_of_lt (Nat.lt_of_sub_pos hp)) (Nat.le_of_eq hf.symm)
 rwa[←Nat.add_assoc,←Nat.add_assoc]at this
theorem arGt{s c e:Nat}(h:n+c+4+e≤s):¬((n+c:Nat):Int)+4+(e:Int) > (s:Int):=Int.not_lt.mpr (Int.ofNat_le.mpr h)
theorem arGt2{s c r m:Nat}(hl:s - n=c+r)(hr:r < m+4):((n+c:Nat):Int)+4+(m:Int) > (s:Int):=Int.ofNat_lt.mpr (show s < n+c+4+m by
 have h1:s≤c+r+n:=Nat.sub_le_iff_le_add.mp (Nat.le_of_eq hl)
 refine Nat.lt_of_le_of_lt h1 ?_
 rw[Nat.add_comm (c+r) n,←Nat.add_assoc,Nat.add_assoc (n+c),Nat.add_comm 4 m]
 exact Nat.add_lt_add_left hr (n+c))
section
theorem qHv{v:V}{d:Nat}(hr:v.isRow)(hz:v.enc.length≤16777216)(ho:v.ok)(hd:v.dep≤d)(hk:d≤18)(h:Q v.toD σ):FN w os (lv+2 * d+7) 344 [.bytes v.enc.toArray] σ Q X:=by
 have hs:v.enc.toArray.size=v.enc.length:=List.size_toArray
 refine qA5 ["octets"] rfl (len1 λ_=>rfl) λA fr L=>?_
 walk_at"e"
 have rv:qJb w os (0+2 * d+6) d:=qFp d
 refine qA1 (lv:=0+2 * d+6) rfl (by walk_at"lv") (rv (n:=0) (k:=1) (v:=v) (rest:=[]) (by omega) ho hd (by omega) (by simp) ?_)
 refine qCD rfl (qAK (.inl rfl) (qAK (.inl rfl) (qBU ?_)))
 walk_at"e"
 refine qB6 (by rw[hs];unfold sizeLine;omega) ?_
 walk_at"e"
 rw[decide_eq_false (show ¬((0+v.enc.length:Nat):Int) < (v.enc.toArray.size:Int) by omega)]
 walk_at"e"
 obtain⟨x,l,rfl⟩:=hr
 refine qA1 (lv:=1) rfl (by walk_at"lv") (qHK (lv:=0) (by simp only[V.enc,List.length_cons,List.length_append,V.encs]at hz;have:=V.encs_len l;have:=qDG (V.str x::l).length;simp only[List.length_cons]at this;omega) ?_)
 walk_at"e"
 exact h
theorem qHI{d:Nat}{v:V}{rest:List UInt8}(hz:b.size≤16777216)(hr:v.isRow)(ho:v.ok)(hd:v.dep≤d)(hk:d≤18)(hdr:b.toList.drop n=qAF v++rest)(h:Q (.tup [v.toD,.int (n+(qAF v).length:Nat)]) σ):
  FN w os (lv+2 * d+8) 372 [.bytes b,.int n] σ Q X:=by
 have hbl:b.toList.length=b.size:=Array.length_toList
 have hl:=congrArg List.length hdr
 rw[List.length_drop,hbl,List.length_append]at hl
 have e4:(sumB (adl v.enc)).toList.length=4:=by rw[Array.length_toList,qBo]
 have hfl:(qAF v).length=(cntL v.enc.length).length+4+v.enc.length:=by unfold qAF;rw[List.length_append,List.length_append,e4]
 have hdr1:b.toList.drop n=cntL v.enc.length++((sumB (adl v.enc)).toList++v.enc++rest):=by rw[hdr];unfold qAF;simp only[List.append_assoc]
 have hdr2:b.toList.drop (n+(cntL v.enc.length).length)=(sumB (adl v.enc)).toList++(v.enc++rest):=by rw[←List.drop_drop,hdr1,List.drop_left,List.append_assoc]
 have hdr3:b.toList.drop (n+(cntL v.enc.length).length+4)=v.enc++rest:=by rw[←List.drop_drop,hdr2,←e4,List.drop_left]
 have hs:=arRow hl hfl
 clear hl
 refine qA5 ["data","at"] rfl (len2 λ_ _=>rfl) λA fr L=>?_
 walk_at"e1"
 refine qEV rfl (T:=64) (by decide) rfl qCK ?_
 walk_at"e"
 refine qA1 (lv:=4) rfl (by walk_at"lv") (qAZ (lv:=0) (m:=v.enc.length) hz (Nat.lt_of_le_of_lt (Nat.le_trans (Nat.le_trans (Nat.le_add_left _ _) hs) hz) (by decide)) hdr1 ?_)
 refine qCD rfl (qAK (.inl rfl) (qAK (.inl rfl) (qBU ?_)))
 walk_at"e"
 refine qB6 (by walk_at"sz") ?_
 walk_at"e"
 rw[decide_eq_false (arGt hs)]
 walk_at"e"
 refine qDJ (by walk_at"sz") ?_
 rw[show((n+(cntL v.enc.length).length:Nat):Int)+4+(v.enc.length:Int)=((n+(cntL v.enc.length).length+4+v.enc.length:Nat):Int) from rfl,show((n+(cntL v.enc.length).length:Nat):Int)+4=((n+(cntL v.enc.length).length+4:Nat):Int) from rfl]
 rw[qGp (Nat.le_add_right _ _) hs,hdr3,Nat.add_sub_cancel_left,List.take_left' rfl]
 walk_at"e"
 refine qDM ?_
 walk_at"e"
 refine qDJ (by walk_at"sz") ?_
 rw[qGp (Nat.le_add_right _ _) (Nat.le_trans (Nat.le_add_right _ _) hs),hdr2,Nat.add_sub_cancel_left,List.take_left' e4]
 walk_at"e"
 refine qDM ?_
 walk_at"e"
 refine qA1 (lv:=1) rfl (by walk_at"lv") (qIu (lv:=0) ?_)
 walk_at"e"
 refine qA1 (lv:=1) rfl (by walk_at"lv") (f_sum (lv:=0) ?_)
 refine O_ney ?_
 rw[show((sumB (adl v.enc)).toList.toArray.toList !=(sumB (adl v.enc.toArray.toList)).toList)=false by simp]
 walk_at"e"
 refine qA1 (lv:=0+2 * d+7) rfl (by walk_at"lv") (qHv (lv:=0) hr (by omega) ho hd hk ?_)
 walk_at"e"
 rw[show((n+(cntL v.enc.length).length+4:Nat):Int)+(v.enc.length:Int)=((n+(qAF v).length:Nat):Int) by rw[hfl,←Nat.add_assoc,←Nat.add_assoc];rfl]
 exact h
theorem qFn(hz:b.size≤16777216)(hn:b.size≤n)(h:Q .none σ):FN w os (lv+5) 372 [.bytes b,.int n] σ Q X:=by
 refine qA5 ["data","at"] rfl (len2 λ_ _=>rfl) λA fr L=>?_
 walk_at"e1"
 refine qEV rfl (T:=64) (by decide) rfl qCK ?_
 walk_at"e"
 refine qA1 (lv:=4) rfl (by walk_at"lv") (qDA (lv:=0) hz hn ⟨rfl,λea=>?_⟩)
 walk_at"e"
 exact h
theorem qFo{m:Nat}{rest:List UInt8}(hz:b.size≤16777216)(hm:m < 1000000)(hdr:b.toList.drop n=cntL m++rest)(hr:rest.length < m+4)(h:Q .none σ):FN w os (lv+5) 372 [.bytes b,.int n] σ Q X:=by
 have hbl:b.toList.length=b.size:=Array.length_toList
 have hl:=congrArg List.length hdr
 rw[List.length_drop,hbl,List.length_append]at hl
 refine qA5 ["data","at"] rfl (len2 λ_ _=>rfl) λA fr L=>?_
 walk_at"e1"
 refine qEV rfl (T:=64) (by decide) rfl qCK ?_
 walk_at"e"
 refine qA1 (lv:=4) rfl (by walk_at"lv") (qAZ (lv:=0) (m:=m) hz (by omega) hdr ?_)
 refine qCD rfl (qAK (.inl rfl) (qAK (.inl rfl) (qBU ?_)))
 walk_at"e"
 refine qB6 (by walk_at"sz") ?_
 walk_at"e"
 rw[decide_eq_true (arGt2 hl hr)]
 walk_at"e"
 exact h
end
def qEe(i:Int):Prop:=-1000000≤i∧i≤1000000
theorem BoxT.Inv.up{k:Str}{b:BoxT}(h:b.Inv n k):b.Inv (n+1) k:=⟨by have:=h.kl;omega,h.nm,by have:=h.ll;omega,by have:=h.gl;omega,h.fl⟩
theorem qEj{K V:Type} [DecidableEq K]{l:List (K × V)}{k:K}{u v:V}(e:pget l k=some u):(pset l k v).length=l.length:=by
 unfold pset
 rw[if_pos (List.any_eq_true.mpr (y12 _ (qAY e) (decide_eq_true rfl))),List.length_map]
theorem pdel_len{K V:Type} [DecidableEq K]{l:List (K × V)}{k:K}{u:V}(e:pget l k=some u):(pdel l k).length+1≤l.length:=by
 induction l with
 |nil=>cases e
 |cons p r ih=>
  unfold pdel
  by_cases q:p.1=k
  ·rw[List.filter_cons_of_neg (by simpa using q)]
   exact Nat.succ_le_succ (List.length_filter_le _ _)
  ·rw[List.filter_cons_of_pos (by simpa using q)]
   rw[qAp,if_neg q]at e
   exact Nat.succ_le_succ (ih e)
theorem StoreT.Inv.at{k:Str}{b:BoxT}(h:S.Inv n)(e:pget S.boxes k=some b):b.Inv n k:=h.bx _ (qAY e)
theorem klUp{l:Nat}(h:l≤200 * (n+1)):l≤200 * (n+1+1):=Nat.le_trans h (Nat.mul_le_mul_left 200 (Nat.le_succ _))
theorem llUp{l:Nat}(h:l≤4 * n):l≤4 * (n+1):=Nat.le_trans h (Nat.mul_le_mul_left 4 (Nat.le_succ _))
theorem glUp{l:Nat}(h:l≤48 * n):l≤48 * (n+1):=Nat.le_trans h (Nat.mul_le_mul_left 48 (Nat.le_succ _))
theorem cpZ{t r s d u g:Nat}(e:r=t+s)(a:s≤d)(b:d≤u)(c:u≤4)(tl:t≤4 * n)(tg:g≤48 * n)(hn:n≤11):r≤4 * (n+1)∧g+r≤48 * (n+1):=by
 have hr:r≤4 * (n+1):=e▸Nat.add_le_add tl (Nat.le_trans a (Nat.le_trans b c))
 exact⟨hr,Nat.add_le_add tg (Nat.le_trans hr (Nat.mul_le_mul_left 4 (Nat.succ_le_succ hn)))⟩
theorem glX{g l:Nat}(hn:n≤11)(h:g≤48 * n)(k:l≤4 * n):g+l≤48 * (n+1):=Nat.add_le_add h (Nat.le_trans k (Nat.le_trans (Nat.mul_le_mul_left 4 hn) (by decide)))
theorem nvUp{v v':Int}(h:2≤v∧v≤2+4 * (n:Int))(a:v≤v')(b:v'≤v+4):2≤v'∧v'≤2+4 * ((n+1:Nat):Int):=
 ⟨Int.le_trans h.1 a,Int.le_trans b (Int.le_trans (Int.add_le_add_right h.2 4) (Int.le_of_eq (by rw[Int.add_assoc];exact congrArg (2+ ·) (Int.mul_add 4 n 1).symm)))⟩
theorem nvTo{v:Int}{m:Nat}(h:2≤v∧v≤2+4 * (n:Int))(a:n≤m):2≤v∧v≤2+4 * (m:Int):=
 ⟨h.1,Int.le_trans h.2 (Int.add_le_add_left (Int.mul_le_mul_of_nonneg_left (Int.ofNat_le.mpr a) (by decide)) 2)⟩
theorem StoreT.Inv.put{m:Nat}{k:Str}{b u:BoxT}(h:S.Inv n)(e:pget S.boxes k=some u)(hb:b.Inv m k)(hm:n≤m):(S.put k b).Inv m:=by
 refine⟨?_,λp hp=>?_,Nat.le_trans h.sb hm,nvTo h.nv hm⟩
 ·show(pset _ _ _).length≤_
  rw[qEj e];have:=h.nb;omega
 ·rcases qDE hp with rfl|hp
  ·exact hb
  ·have q:=h.bx p hp
   exact⟨by have:=q.kl;have:=Nat.mul_le_mul_left 200 (Nat.succ_le_succ hm);omega,q.nm,by have:=q.ll;omega,by have:=q.gl;omega,q.fl⟩
theorem qD3(r:List LetT)(g:BoxT)(ps:List (Int × Int))(hr:∀l∈r,FlagsOk l.flags)(hg:∀l∈g.letters,FlagsOk l.flags):∀l∈(qAE g ps r).1.letters,FlagsOk l.flags:=by
 induction r generalizing g ps with
 |nil=>exact hg
 |cons l r ih=>
  rw[qHP]
  obtain⟨ns,e⟩:=qAv (hr l List.mem_cons_self).1
  refine ih _ _ (λx m=>hr x (List.mem_cons_of_mem _ m)) λx m=>?_
  rw[e]at m
  rcases List.mem_append.mp m with m|m
  ·exact hg x m
  ·rw[List.mem_singleton.mp m]
   exact qAg (hr l List.mem_cons_self).flags e
theorem qIW{b:BoxT}:∀l∈b.sel us,l∈b.letters:=λl h=>by
 obtain⟨u,_,e⟩:=List.mem_filterMap.mp h
 exact qCI e
theorem qBg(b:BoxT)(us:List Int):(b.expunge us).2.name=b.name∧(b.expunge us).2.letters.length≤b.letters.length∧(b.expunge us).2.gone.length≤b.gone.length+b.letters.length∧∀l∈(b.expunge us).2.letters,l∈b.letters:=by
 unfold BoxT.expunge BoxT.exp1
 split
 ·exact(y04 rfl (Nat.le_refl _) (Nat.le_add_right _ _) (λ_ h=>h))
 ·refine(y04 rfl (List.length_filter_le _ _) ?_ (λl h=>(List.mem_filter.mp h).1))
  show(b.gone++_).length≤_
  rw[List.length_append,List.length_map]
  have:=List.length_filter_le (λu=>(pget (qAB us) u).isSome) (b.letters.map LetT.uid)
  rw[List.length_map]at this
  omega
theorem qEJ{b b':BoxT}{uid:Int}{ns:List Str}{t:Bool}(hn:FlagsOk ns)(h:∀l∈b.letters,FlagsOk l.flags)(e:b.setF uid ns=some (t,b')):b'.name=b.name∧b'.gone=b.gone∧∀l∈b'.letters,FlagsOk l.flags:=by
 unfold BoxT.setF at e
 split at e
 ·cases e
 ·split at e
  ·split at e
   ·injection e with e;injection e with _ e;subst e;exact(y03 rfl rfl h)
   ·injection e with e;injection e with _ e;subst e
    refine(y03 rfl rfl (λl m=>?_))
    rcases List.mem_or_eq_of_mem_set m with m|rfl
    ·exact h l m
    ·exact hn
  ·cases e
theorem qEd{u:Option Int}{way:Str}{ns:List Str}(hn:FlagsOk ns){r:List LetT}{b b':BoxT}{ch ch':List Int}(hr:∀l∈r,FlagsOk l.flags)(h:∀l∈b.letters,FlagsOk l.flags)(e:qAo u way ns b ch r=some (b',ch')):
  b'.name=b.name∧b'.gone=b.gone∧b'.letters.length=b.letters.length∧∀l∈b'.letters,FlagsOk l.flags:=by
 induction r generalizing b ch with
 |nil=>rw[←(Prod.mk.inj (Option.some.inj e)).1];exact y04 rfl rfl rfl h
 |cons l r ih=>
  rw[qDQ]at e
  split at e
  ·exact ih (λx m=>hr x (List.mem_cons_of_mem _ m)) h e
  ·split at e
   ·cases e
   ·rename_i p q
    obtain⟨rs,q1,q⟩:=Option.bind_eq_some_iff.mp q
    obtain⟨ts,q2,q1⟩:=Option.bind_eq_some_iff.mp q1
    have hl:=hr l List.mem_cons_self
    have ht:=qFE hl hn q2
    have hrs:=qAg ht.flags q1
    obtain⟨z1,z2,z3⟩:=qEJ hrs h (t:=p.1) (b':=p.2) q
    obtain⟨y1,y2,y3,y4⟩:=ih (λx m=>hr x (List.mem_cons_of_mem _ m)) z3 e
    exact(y04 (y1.trans z1) (y2.trans z2) (y3.trans (qEf (t:=p.1) q)) y4)
theorem qIX{old new:Str}{ns:List Str}{acc ps:List (Str × Str)}(e:qCP old new ns acc=some ps)(p:Str × Str)(hp:p∈ps):p∈acc∨p.1∈ns∧p.2=qA4 (qBf old new p.1):=by
 induction ns generalizing acc with
 |nil=>cases Option.some.inj e;exact .inl hp
 |cons n r ih=>
  rw[qGR]at e
  split at e
  ·split at e
   ·rcases ih e with h|h
    ·rcases List.mem_append.mp h with h|h
     ·exact .inl h
     ·rw[List.mem_singleton.mp h];exact .inr ⟨List.mem_cons_self,rfl⟩
    ·exact .inr ⟨List.mem_cons_of_mem _ h.1,h.2⟩
   ·cases e
  ·rcases ih e with h|h
   ·exact .inl h
   ·exact .inr ⟨List.mem_cons_of_mem _ h.1,h.2⟩
theorem qGT(ps:List (Str × Str))(B:List (Str × BoxT)):(qBR B ps).2.length+(qBR B ps).1.length≤B.length∧(∀p∈(qBR B ps).2,p∈B)∧∀b∈(qBR B ps).1,∃k,(k,b)∈B:=by
 induction ps generalizing B with
 |nil=>exact y03 (Nat.le_refl _) (λ_ h=>h) λ_ h=>absurd h List.not_mem_nil
 |cons p r ih=>
  rw[qGU]
  split
  ·rename_i b e
   obtain⟨h1,h2,h3⟩:=ih (pdel B p.1)
   refine(y03 (by have:=pdel_len e;simp only[List.length_cons];omega) (λq hq=>(qEn (h2 q hq)).1) (λc hc=>?_))
   rcases List.mem_cons.mp hc with rfl|hc
   ·exact⟨_,qAY e⟩
   ·obtain⟨k,hk⟩:=h3 c hc;exact⟨k,(qEn hk).1⟩
  ·exact(y03 (Nat.le_refl _) (λ_ h=>h) λ_ h=>absurd h List.not_mem_nil)
theorem qGS(bs:List BoxT)(ps:List (Str × Str))(B:List (Str × BoxT)):(qEi B bs ps).length≤B.length+bs.length∧∀p∈qEi B bs ps,p∈B∨∃b∈bs,∃q∈ps,p=(q.2,{b with name:=q.2}):=by
 induction bs generalizing ps B with
 |nil=>exact⟨Nat.le_refl _,λ_ h=>.inl h⟩
 |cons b bs ih=>
  cases ps with
  |nil=>exact⟨Nat.le_add_right _ _,λ_ h=>.inl h⟩
  |cons q ps=>
   obtain⟨h1,h2⟩:=ih ps (pset B q.2 {b with name:=q.2})
   refine⟨Nat.le_trans h1 (by have:=qBG B q.2 {b with name:=q.2};rw[List.length_cons];omega),λp hp=>?_⟩
   rcases h2 p hp with h| ⟨c,hc,t,ht,e⟩
   ·rcases qDE h with h|h
    ·exact .inr (y12 b List.mem_cons_self ⟨q,List.mem_cons_self,h⟩)
    ·exact .inl h
   ·exact .inr (y12 c (List.mem_cons_of_mem _ hc) ⟨t,List.mem_cons_of_mem _ ht,e⟩)
theorem qIV(x:Str)(a b:Option Int):(Txt.slice x a b).length≤x.length:=Txt.slice_le x a b
def Deed.near(S:StoreT):Deed→Prop
 | .create _ v=>v≤S.nextv+3
 | .delete .. | .rename .. | .append .. | .flags .. | .store .. | .expunge .. | .copy .. | .sub .. | .unsub .. | .forget .. | .bad .. =>True
theorem StoreT.Inv.step{S':StoreT}{d:Deed}{r:D}(h:S.Inv n)(hn:n≤11)(hd:d.ok)(hr:d.near S)(e:S.apply d=some (r,S')):S'.Inv (n+1):=by
 have up:∀p∈S.boxes,p.2.Inv (n+1) p.1:=λp hp=>(h.bx p hp).up
 have hnb:=h.nb
 have hsb:=h.sb
 have hnv:=h.nv
 cases d with
 |create x v=>
  simp only[Deed.near]at hr
  simp only[Deed.ok]at hd
  have:=qCQ x
  have e:=(iteN e).2
  obtain⟨q,e⟩:=iteN e
  obtain⟨q2,e⟩:=iteN e
  obtain rfl:=qCO e
  have hv:S.nextv≤v:=by
   have:S.valid v=true:=by simpa using q2
   unfold StoreT.valid at this
   simp only[Bool.and_eq_true,decide_eq_true_eq]at this
   exact this.1
  refine⟨Nat.le_trans (qBG _ _ _) (Nat.succ_le_succ hnb),λp hp=>?_,Nat.le_succ_of_le hsb,nvUp hnv (by omega) (by omega)⟩
  rcases qDE hp with rfl|hp
  ·exact⟨by show(qA4 x).length≤_;omega,rfl,Nat.zero_le _,Nat.zero_le _,(by intro _ h;cases h)⟩
  ·exact up p hp
 |delete x=>
  obtain⟨b,hb,e⟩:=matN e
  have e:=(iteN e).2
  obtain rfl:=qCO e
  exact⟨Nat.le_trans (List.length_filter_le _ _) (by omega),λp hp=>up p (qEn hp).1,Nat.le_succ_of_le hsb,nvUp hnv (Int.le_refl _) (Int.le_add_of_nonneg_right (by decide))⟩
 |rename old new=>
  simp only[Deed.ok]at hd
  have hnn:=qCQ new
  obtain⟨b,hb,e⟩:=matN e
  have e:=(iteN e).2
  obtain⟨qx,e⟩:=iteN e
  have qx:pget S.boxes (qA4 new)=none:=by simpa using qx
  have bi:=h.at hb
  split at e
  ·unfold StoreT.renInbox at e
   have e:=(iteN e).2
   have e:=(iteN e).2
   obtain rfl:=qCO e
   have hkx:qA4 old≠qA4 new:=λq=>by rw[q,qx]at hb;cases hb
   obtain⟨c1,c2,c3,c4,c5⟩:=qC5 (b.sel (b.letters.map LetT.uid)) (boxN (qA4 new) S.nextv) []
   have hsl:=qEg b (b.letters.map LetT.uid)
   rw[List.length_map]at hsl
   have bll:=bi.ll
   have bgl:=bi.gl
   generalize hr:qAE (boxN (qA4 new) S.nextv) [] (b.sel (b.letters.map LetT.uid))=r at c1 c3 c5 ⊢
   have i1:({S with boxes:=pset S.boxes (qA4 new) (boxN (qA4 new) S.nextv),nextv:=S.nextv+1}:StoreT).Inv (n+1):=by
    refine⟨Nat.le_trans (qBG _ _ _) (Nat.succ_le_succ hnb),λp hp=>?_,Nat.le_succ_of_le hsb,nvUp hnv (by omega) (by omega)⟩
    rcases qDE hp with rfl|hp
    ·exact⟨by show(qA4 new).length≤_;omega,rfl,Nat.zero_le _,Nat.zero_le _,(by intro _ h;cases h)⟩
    ·exact up p hp
   have c0:(boxN (qA4 new) S.nextv).letters.length=0:=rfl
   have c0':(boxN (qA4 new) S.nextv).gone.length=0:=rfl
   have i2:=i1.put (k:=qA4 new) (b:=r.1) (m:=n+1) (by show pget (pset _ _ _) _=_;rw[qAL,if_pos rfl]) ⟨by omega,c5,by omega,by rw[c3];omega,by
    rw[←hr]
    exact qD3 _ _ _ (λl m=>bi.fl l (qIW l m)) (by intro _ h;cases h)⟩ (Nat.le_refl _)
   have e3:pget ((({S with boxes:=pset S.boxes (qA4 new) (boxN (qA4 new) S.nextv),nextv:=S.nextv+1}:StoreT).put (qA4 new) r.1).boxes) (qA4 old)=some b:=by
    show pget (pset (pset _ _ _) _ _) _=_
    rw[qAL,if_neg hkx,qAL,if_neg hkx,hb]
   rw[e3]
   obtain⟨x1,x2,x3,x4⟩:=qBg b (r.2.map (·.1))
   exact i2.put e3 ⟨klUp bi.kl,x1.trans bi.nm,(by first|exact Nat.le_trans x2 (llUp bll)|omega),(by first|exact Nat.le_trans x3 (glX hn bgl bll)|omega),λl m=>bi.fl l (x4 l m)⟩ (Nat.le_refl _)
  ·obtain⟨ps,hps,e⟩:=matN e
   obtain rfl:=qCO e
   obtain⟨f1,f2,f3⟩:=qGT ps S.boxes
   obtain⟨g1,g2⟩:=qGS (qBR S.boxes ps).1 ps (qBR S.boxes ps).2
   refine⟨Nat.le_trans g1 (by omega),λp hp=>?_,Nat.le_succ_of_le hsb,nvUp hnv (Int.le_refl _) (Int.le_add_of_nonneg_right (by decide))⟩
   rcases g2 p hp with hp| ⟨c,hc,q,hq,rfl⟩
   ·exact up p (f2 p hp)
   ·obtain⟨k,hk⟩:=f3 c hc
    have ci:=h.bx _ hk
    rcases qIX (qDS hps) q hq with z| ⟨z1,z2⟩
    ·cases z
    ·obtain⟨t,ht,te⟩:=List.mem_map.mp (names_mem.mp z1)
     have tl:=(h.bx _ ht).kl
     rw[te]at tl
     refine⟨?_,rfl,llUp ci.ll,glUp ci.gl,ci.fl⟩
     show q.2.length≤_
     rw[z2]
     have:=qCQ (qBf b.name (qA4 new) q.1)
     have:(qBf b.name (qA4 new) q.1).length≤(qA4 new).length+q.1.length:=by unfold qBf;rw[e_len];have:=qIV q.1 (some (b.name.length:Int)) none;omega
     omega
 |append x fs i o=>
  obtain⟨hd,hf,ho⟩:=hd
  obtain⟨b,hb,e⟩:=matN e
  have e:=(iteN e).2
  obtain⟨ns,hns,e⟩:=matN e
  obtain rfl:=qCO e
  have bi:=h.at hb
  refine h.put hb ⟨klUp bi.kl,bi.nm,?_,glUp bi.gl,λl m=>?_⟩ (Nat.le_succ n)
  ·show(b.letters++_).length≤_
   rw[List.length_append,List.length_singleton];have:=bi.ll;omega
  ·rcases List.mem_append.mp m with m|m
   ·exact bi.fl l m
   ·rw[List.mem_singleton.mp m];exact qAg hf.1 hns
 |flags x u fs=>
  obtain⟨hd,hf⟩:=hd
  obtain⟨b,hb,e⟩:=matN e
  have e:=(iteN e).2
  obtain⟨p,hp,e⟩:=matN e
  obtain rfl:=qCO e
  obtain⟨ns,h1,h2⟩:=Option.bind_eq_some_iff.mp hp
  have bi:=h.at hb
  obtain⟨y1,y2,y3⟩:=qEJ (qAg hf.1 h1) bi.fl (t:=p.1) (b':=p.2) h2
  have y4:=qEf (t:=p.1) (b':=p.2) h2
  exact h.put hb ⟨klUp bi.kl,y1.trans bi.nm,by have:=bi.ll;omega,by rw[y2];exact glUp bi.gl,y3⟩ (Nat.le_succ n)
 |store x us way fs u=>
  obtain⟨hd,hu,hf,hw⟩:=hd
  obtain⟨b,hb,e⟩:=matN e
  have e:=(iteN e).2
  obtain⟨ns,hns,e⟩:=matN e
  obtain⟨p,hp,e⟩:=matN e
  obtain rfl:=qCO e
  obtain⟨ns2,h1,h2⟩:=Option.bind_eq_some_iff.mp hp
  have bi:=h.at hb
  have f1:=qAg hf.1 hns
  obtain⟨y1,y2,y3,y4⟩:=qEd (qAg f1.flags h1) (λl m=>bi.fl l (qDU l m)) bi.fl (b':=p.1) (ch':=p.2) h2
  exact h.put hb ⟨klUp bi.kl,y1.trans bi.nm,by have:=bi.ll;omega,by rw[y2];exact glUp bi.gl,y4⟩ (Nat.le_succ n)
 |expunge x us=>
  obtain⟨b,hb,e⟩:=matN e
  have e:=(iteN e).2
  obtain rfl:=qCO e
  have bi:=h.at hb
  obtain⟨x1,x2,x3,x4⟩:=qBg b us
  have bll:=bi.ll
  have bgl:=bi.gl
  exact h.put hb ⟨klUp bi.kl,x1.trans bi.nm,(by first|exact Nat.le_trans x2 (llUp bll)|omega),(by first|exact Nat.le_trans x3 (glX hn bgl bll)|omega),λl m=>bi.fl l (x4 l m)⟩ (Nat.le_succ n)
 |copy mv x us g=>
  obtain⟨hd,hu,hg⟩:=hd
  obtain⟨b,hb,e⟩:=matN e
  obtain⟨t,ht,e⟩:=matN e
  have e:=(iteN e).2
  have e:=(iteN e).2
  have e:=(iteN e).2
  obtain rfl:=qCO e
  have bi:=h.at hb
  have ti:=h.at ht
  obtain⟨c1,c2,c3,c4,c5⟩:=qC5 (b.sel (qAa us)) t []
  have hsl:=qEg b (qAa us)
  have hdl:=qCV us
  have bll:=bi.ll
  have bgl:=bi.gl
  have tll:=ti.ll
  have tgl:=ti.gl
  have hfl:=qD3 (b.sel (qAa us)) t [] (λl m=>bi.fl l (qIW l m)) ti.fl
  generalize qAE t [] (b.sel (qAa us))=r at c1 c3 c5 hfl ⊢
  have i1:=h.put (b:=r.1) (m:=n+1) ht ⟨klUp ti.kl,c5.trans ti.nm,(cpZ c1 hsl hdl hu tll tgl hn).1,by rw[c3];exact glUp tgl,hfl⟩ (Nat.le_succ n)
  cases mv
  ·exact i1
  ·rw[if_pos rfl]
   split
   ·rename_i b2 e2
    have b2i:=i1.at e2
    obtain⟨x1,x2,x3,x4⟩:=qBg b2 (r.2.map (·.1))
    have e3:pget (pset S.boxes (qA4 g) r.1) (qA4 x)=some b2:=e2
    rw[qAL]at e3
    have z:b2.letters.length≤4 * (n+1)∧b2.gone.length+b2.letters.length≤48 * (n+1):=by
     split at e3
     ·obtain rfl:=Option.some.inj e3;rw[c3];exact cpZ c1 hsl hdl hu tll tgl hn
     ·rw[hb]at e3;obtain rfl:=Option.some.inj e3;exact⟨llUp bll,glX hn bgl bll⟩
    exact i1.put e2 ⟨by have:=b2i.kl;omega,x1.trans b2i.nm,by omega,by omega,λl m=>b2i.fl l (x4 l m)⟩ (Nat.le_refl _)
   ·exact i1
 |sub x=>
  have e:=(iteN e).2
  split at e
  ·obtain rfl:=qCO e
   exact⟨Nat.le_succ_of_le hnb,up,Nat.le_succ_of_le hsb,nvUp hnv (Int.le_refl _) (Int.le_add_of_nonneg_right (by decide))⟩
  ·obtain rfl:=qCO e
   refine⟨Nat.le_succ_of_le hnb,up,?_,nvUp hnv (Int.le_refl _) (Int.le_add_of_nonneg_right (by decide))⟩
   show(qCF _).length≤_
   unfold qCF;rw[List.length_mergeSort,List.length_append,List.length_singleton];omega
 |unsub x=>
  have e:=(iteN e).2
  obtain rfl:=qCO e
  exact⟨Nat.le_succ_of_le hnb,up,Nat.le_trans (List.length_filter_le _ _) (by omega),nvUp hnv (Int.le_refl _) (Int.le_add_of_nonneg_right (by decide))⟩
 |forget x m=>
  obtain⟨b,hb,e⟩:=matN e
  obtain rfl:=qCO e
  have bi:=h.at hb
  have bll:=bi.ll
  have bgl:=bi.gl
  have bkl:=bi.kl
  refine h.put hb ?_ (Nat.le_succ n)
  unfold BoxT.forget
  dsimp only
  generalize (if b.top < m then b.top else m)=bd
  split
  ·exact bi.up
  ·exact⟨by omega,bi.nm,llUp bll,Nat.le_trans (List.length_filter_le _ _) (by omega),bi.fl⟩
 |bad x vs=>cases e
class inductive Runs:StoreT→List Deed→StoreT→Prop
 |nil (S:StoreT):Runs S [] S
 |cons {S S1 S2:StoreT} {d:Deed} {r:D} {ds:List Deed}:d.ok→d.near S→S.apply d=some (r,S1)→Runs S1 ds S2→Runs S (d::ds) S2
theorem Runs.snoc{S1 S2:StoreT}{d:Deed}{r:D}{ds:List Deed}(h:Runs S ds S1)(h1:d.ok)(h2:d.near S1)(h3:S1.apply d=some (r,S2)):Runs S (ds++ [d]) S2:=by
 induction h with
 |nil S=>exact .cons h1 h2 h3 (.nil _)
 |cons a b c _ ih=>exact .cons a b c (ih h2 h3)
theorem Runs.inv{S':StoreT}{ds:List Deed}(h:Runs S ds S')(hi:S.Inv n)(hn:n+ds.length≤12):S'.Inv (n+ds.length):=by
 induction h generalizing n with
 |nil S=>exact hi
 | @cons S S1 S2 d r ds a b c _ ih=>
  rw[List.length_cons]at hn ⊢
  have:=ih (hi.step (by omega) a b c) (by omega)
  rwa[show n+1+ds.length=n+(ds.length+1) by omega]at this
theorem inv0:store0.Inv 0:=by
 refine⟨Nat.le_refl _,λp hp=>?_,Nat.le_refl _,by decide,by decide⟩
 have e:=List.mem_singleton.mp hp
 subst e
 exact⟨by decide+kernel,rfl,Nat.le_refl _,Nat.le_refl _,(by intro _ h;cases h)⟩
structure Deed.Ok(d:Deed):Prop where
 ok:d.ok
 vok:d.val.ok
 dep:d.val.dep≤2
 len:d.val.enc.length≤2000
theorem Deed.isRow(d:Deed):d.val.isRow:=(y21 d.wrd d.vls rfl)
noncomputable def qA9(ds:List Deed):List UInt8:=ds.flatMap λd=>qAF d.val
theorem qFg(d:Deed)(ds:List Deed):qA9 (d::ds)=qAF d.val++qA9 ds:=rfl
theorem qBr(d:Deed)(ds:List Deed):qA9 (ds++ [d])=qA9 ds++qAF d.val:=by unfold qA9;rw[List.flatMap_append];simp
theorem qGc(a b:List Deed):qA9 (a++b)=qA9 a++qA9 b:=by unfold qA9;rw[List.flatMap_append]
theorem Runs.uncons{S2:StoreT}{d:Deed}{ds:List Deed}(h:Runs S (d::ds) S2):∃S1 r,d.ok∧d.near S∧S.apply d=some (r,S1)∧Runs S1 ds S2:=by
 cases h with|cons a b c k=>exact(y24 _ _ a b c k)
theorem Runs.nil'{S2:StoreT}(h:Runs S [] S2):S2=S:=by cases h;rfl
def Stop(S:StoreT)(rest:List UInt8):Prop:=rest= []∨(∃(m:Nat) (r:List UInt8),rest=cntL m++r∧m < 1000000∧r.length < m+4)∨∃(d:Deed) (r:List UInt8),rest=qAF d.val++r∧d.Ok∧S.apply d=none
def Fd(S:StoreT)(todo:List Deed)(n:Nat)(fd:D):Prop:=(∃d t,todo=d::t∧fd= .tup [d.val.toD,.int (n+(qAF d.val).length:Nat)])∨(todo= []∧fd= .none)∨(todo= []∧∃(d:Deed) (m:Nat),d.Ok∧S.apply d=none∧fd= .tup [d.val.toD,.int m])
noncomputable def kpMO(a:Addr)(b:Array UInt8):MO:=.inst 685 [("store",.obj a),("data",.bytes b)]
def KpAt(F σ:Sg)(kp a:Addr)(L:List (Str × Addr))(S:StoreT)(b:Array UInt8):Prop:=∃G,StAt G σ a L S∧F.Sub G∧G kp=some (kpMO a b)∧F kp=none
theorem KpAt.at{kp:Addr}(h:KpAt F σ kp a L S b):σ kp=some (kpMO a b):=x1_4 h λ_ hs _ e _=>hs.subF _ _ e
theorem KpAt.data{kp:Addr}(h:KpAt F σ kp a L S b)(b':Array UInt8):KpAt F (σ.set kp (kpMO a b')) kp a L S b':=
 x1_4 h λ_ hs s e n=>(y14 _ (hs.set e _) (s.setN n _) (Sg.set_same _ _ _) n)
section
theorem qEN{todo:List Deed}{rest:List UInt8}(hz:b.size≤16777216)(hd:∀d∈todo,d.Ok)(hs:Stop S rest)(hdr:b.toList.drop n=qA9 todo++rest)(h:∀fd,Fd S todo n fd→Q fd σ):
  FN w os (lv+12) 372 [.bytes b,.int n] σ Q X:=by
 have hbl:b.toList.length=b.size:=Array.length_toList
 cases todo with
 |cons d t=>
  have o:=hd d List.mem_cons_self
  rw[qFg,List.append_assoc]at hdr
  exact qHI (lv:=lv) (d:=2) hz d.isRow o.vok o.dep (by decide) hdr (h _ (.inl (y22 d t rfl rfl)))
 |nil=>
  rw[show qA9 []++rest=rest from rfl]at hdr
  rcases hs with rfl| ⟨m,r,rfl,h1,h2⟩| ⟨d,r,rfl,o,h1⟩
  ·refine FN_up (qFn (lv:=lv) hz ?_ (h _ (.inr (.inl ⟨rfl,rfl⟩)))) (by omega)
   have:=congrArg List.length hdr
   rw[List.length_drop,hbl,List.length_nil]at this
   omega
  ·exact FN_up (qFo (lv:=lv) hz h1 hdr h2 (h _ (.inr (.inl ⟨rfl,rfl⟩)))) (by omega)
  ·exact qHI (lv:=lv) (d:=2) hz d.isRow o.vok o.dep (by decide) hdr (h _ (.inr (.inr ⟨rfl,d,_,o,h1,rfl⟩)))
theorem qEx{kp:Addr}{S':StoreT}{b0 data:Array UInt8}{ds:List Deed}{rest:List UInt8}(hk:KpAt F σ kp a M S b0)(inv:S.Inv k)(hkl:k+ds.length≤11)(hds:∀d∈ds,d.Ok)(hr:Runs S ds S')(hs:Stop S' rest)
  (hz:data.size≤16777216)(hdata:data.toList=qA9 ds++rest)(h:∀τ M',KpAt F τ kp a M' S' (qA9 ds).toArray→Q .none τ):FN w os (lv+14) 668 [.obj kp,.bytes data] σ Q X:=by
 have hbl:data.toList.length=data.size:=Array.length_toList
 have hk0:=hk.at
 refine qA5 ["self","data"] rfl (len2 λ_ _=>rfl) λA fr L=>?_
 walk_at"e"
 refine qA1 (lv:=12) rfl (by walk_at"lv") (qEN (lv:=0) (n:=0) hz hds hs (by rw[List.drop_zero];exact hdata) λfd hfd=>?_)
 walk_at"e"
 refine qDH rfl (λn ρ τ=>ρ.lookup ("self":Str)=some (.obj kp)∧ρ.lookup ("data":Str)=some (.bytes data)∧∃(done todo:List Deed) (Si:StoreT) (M':List (Str × Addr)) (fd:D),ds=done++todo∧ρ.lookup ("end":Str)=some (.int ((qA9 done).length:Nat))∧ρ.lookup ("found":Str)=some fd∧
   KpAt F τ kp a M' Si b0∧Runs Si todo S'∧Si.Inv (k+done.length)∧Fd S' todo (qA9 done).length fd∧(fd.isNone=false→n=todo.length+1)) (ds.length+1)
  (y03 rfl rfl ⟨[],ds,S,M,fd,rfl,rfl,rfl,hk,hr,inv,hfd,λ_=>rfl⟩) ?_
 rintro n ρ1 τ1 ⟨h1,h2,done,todo,Si,M',fd,rfl,h3,h4,hki,hri,invi,hfd,hn⟩
 have hki0:=hki.at
 obtain⟨G,hst,hFG,hGk,hFk⟩:=id hki
 rw[List.length_append]at hkl
 unfold kpMO at hki0
 walk_at"e"
 rcases hfd with⟨d,t,rfl,rfl⟩| ⟨rfl,rfl⟩| ⟨rfl,d,m,o,h5,rfl⟩
 ·have o:=hds d (List.mem_append_right _ List.mem_cons_self)
  have hn:=hn rfl
  walk_at"e"
  refine qEV rfl (T:=76) (by decide) rfl qBC ?_
  walk_at"e"
  refine qBK (k:=0) rfl rfl (by decide) ?_
  walk_at"e"
  obtain⟨S1,r,hok,hnear,happ,hrest⟩:=hri.uncons
  refine qA1 (lv:=12) rfl (by walk_at"lv") (qDl (lv:=0) hst invi (by omega) o.ok (λr' S2 e τ M2 hst2=>?_) λe=>by rw[happ]at e;cases e)
  obtain rfl:S1=S2:=by rw[happ]at e;injection e with e;injection e
  walk_at"e"
  refine qBK (k:=1) rfl rfl (by decide) ?_
  walk_at"e"
  have hlen:(qA9 done).length+(qAF d.val).length=(qA9 (done++ [d])).length:=by rw[qBr,List.length_append]
  rw[hlen]
  refine qA1 (lv:=12) rfl (by walk_at"lv") (qEN (lv:=0) hz (λx m=>hds x (List.mem_append_right _ (List.mem_cons_of_mem _ m))) hs ?_ λfd2 hfd2=>?_)
  ·rw[hdata,show qA9 (done++d::t)=qA9 (done++ [d])++qA9 t by rw[←qGc,List.append_assoc];rfl,List.append_assoc,List.drop_left]
  walk_at"e"
  simp only[List.length_cons]at hn hkl
  exact(y14 (t.length+1) (by omega) (by walk_at"nm") (by walk_at"nm") ⟨done++ [d],t,S1,M2,fd2,by simp,by walk_at"nm",by walk_at"nm",(y14 G hst2 hFG hGk hFk),hrest,by
   rw[List.length_append,List.length_singleton]
   exact invi.step (by omega) hok hnear happ,hfd2,λ_=>rfl⟩)
 ·have hS:=hri.nil'
  subst hS
  walk_at"e"
  refine qDJ (by walk_at"sz") ?_
  have hle:(qA9 done).length≤data.size:=by rw[←hbl,hdata,List.append_nil,List.length_append];omega
  rw[cut_head hle,hdata,List.append_nil,List.take_left]
  walk_at"e"
  rw[List.append_nil]at h
  exact h _ _ (hki.data _)
 ·have hn:=hn rfl
  have hS:=hri.nil'
  subst hS
  walk_at"e"
  refine qEV rfl (T:=76) (by decide) rfl qBC ?_
  walk_at"e"
  refine qBK (k:=0) rfl rfl (by decide) ?_
  walk_at"e"
  refine qA1 (lv:=12) rfl (by walk_at"lv") (qDl (lv:=0) hst invi (by omega) o.ok (λr' S2 e=>by rw[h5]at e;cases e) λe=>⟨rfl,λea=>?_⟩)
  walk_at"e"
  exact(y14 0 (by omega) (by walk_at"nm") (by walk_at"nm") ⟨done,[],S',M',.none,rfl,by walk_at"nm",by walk_at"nm",hki,hri,invi,.inr (.inl ⟨rfl,rfl⟩),λe=>by cases e⟩)
end
theorem qDb{d:Deed}(o:d.Ok):(qAF d.val).length≤2010:=by
 unfold qAF
 have e4:(sumB (adl d.val.enc)).toList.length=4:=by rw[Array.length_toList,qBo]
 rw[List.length_append,List.length_append,e4]
 have hl:=o.len
 have:(cntL d.val.enc.length).length≤2:=by
  by_cases q:d.val.enc.length > 127
  ·rw[qBh q,List.length_cons,qAW (by omega)];simp
  ·rw[qAW q];simp
 omega
section
theorem qFx{d:Deed}(hd:d.ok)(q:qB9 d.wrd d.vls=true→Q .none σ)(x:qB9 d.wrd d.vls=false→X 76 σ):FN w os (lv+4) 497 [d.val.toD] σ Q X:=
 qDk (x:=d.wrd) (vs:=d.vls) (Deed.sizes hd).1 (Deed.sizes hd).2 q x
theorem qF2{kp:Addr}(hkp:σ kp=none)(h:∀τ a M,KpAt σ τ kp a M store0 #[]→Q .none τ):FN w os (lv+16) 661 [.obj kp] (σ.set kp (.inst 685 [])) Q X:=by
 refine FN_dv (st:=meAt 101 0) (name:="__init__") (qual:="Keeper.__init__") (pm:=.str "postkeep.store" 767) (cd:=660) (T:=654) (items:=#[.bytes #[] 1087]) (as':=[.obj kp,.bytes #[]]) ["self","data"] rfl (by decide+kernel) rfl
  (λg vs dvs=>by obtain⟨v,rfl,d⟩:=dvs.one;exact(y12 [v,.bytes #[] 1087] (.cons d (.cons (.bytes _ _) .nil)) ⟨_,rfl,rfl⟩)) (λA fr L=>?_)
 walk_at"e"
 refine qA1 (lv:=5) rfl (by walk_at"lv") (qDe (lv:=0) λa τ ab na hs=>?_)
 have k1:τ kp=some (.inst 685 []):=hs.subF _ _ (Sg.set_same _ _ _)
 have k2:=Sg.set_same τ kp (.inst 685 [("store",.obj a)])
 have k3:=Sg.set_same (τ.set kp (.inst 685 [("store",.obj a)])) kp (kpMO a #[])
 unfold kpMO at k3
 have hs2:=hs.set (Sg.set_same _ _ _) (kpMO a #[])
 rw[Sg.set_set]at hs2
 have hkpat:KpAt σ (τ.set kp (kpMO a #[])) kp a [("INBOX",ab)] store0 #[]:=(y14 _ hs2 (Sg.sub_set hkp) (Sg.set_same _ _ _) hkp)
 walk_at"e"
 refine(.mk _ _ (qAQ (f:=668) k3) (qAJ rfl) ?_)
 walk_at"e"
 refine qDM ?_
 walk_at"e"
 rw[Sg.set_set]
 refine qA1 (lv:=14) rfl (by walk_at"lv") (qEx (lv:=0) (k:=0) (ds:=[]) (rest:=[]) hkpat inv0 (by decide) (by intro _ h;cases h) (.nil _) (.inl rfl) (by decide) rfl λυ M' hυ=>?_)
 walk_at"e"
 exact h _ _ _ hυ
theorem qCz(h:∀kp τ a M,σ kp=none→KpAt σ τ kp a M store0 #[]→Q (.obj kp) τ):FN w os (lv+17) 685 [] σ Q X:=
 qFM (by decide) λx hx=>qF2 hx λτ a M hk=>⟨rfl,h x τ a M hx hk⟩
theorem qBD{kp:Addr}(hk:KpAt F σ kp a M S b)(inv:S.Inv k)(hkl:k≤12)(h:Q S.told σ):FN w os (lv+4) 682 [.obj kp] σ Q X:=by
 have hk0:=hk.at
 obtain⟨G,hst,hFG,hGk,hFk⟩:=hk
 obtain⟨ad,h1,h2,ne⟩:=hst.cells
 unfold kpMO at hk0
 refine qA5 ["self"] rfl (len1 λ_=>rfl) λA fr L=>?_
 walk_at"e"
 refine(.mk _ _ (qAQ (f:=459) h1) (qAJ rfl) ?_)
 have:=inv.nb
 have:=inv.sb
 refine qA1 (lv:=3) rfl (by walk_at"lv") ?_
 exact qB1 (lv:=0) hst (by omega) (by omega) (λp hp=>by have:=(inv.bx p hp).ll;have:=(inv.bx p hp).gl;omega) h
theorem qDi{kp:Addr}{d:Deed}(hk:KpAt F σ kp a M S b)(inv:S.Inv k)(hkl:k≤12)(o:d.Ok)(hb:b.size≤1000000)
  (h:∀r S',S.apply d=some (r,S')→∀τ M',KpAt F τ kp a M' S' (b++(qAF d.val).toArray)→Q r τ)(hx:S.apply d=none→X 76 σ):FNc w os (lv+13) 675 [.obj kp,d.val.toD] σ Q X:=by
 have hk0:=hk.at
 obtain⟨G,hst,hFG,hGk,hFk⟩:=hk
 have hfl:=qDb o
 unfold kpMO at hk0
 refine qBx ["self","row"] rfl (len2 λ_ _=>rfl) λA fr L=>?_
 walk_at"c"
 refine qAP (lv:=4) rfl (by walk_at"lv") (FN_c (qFx (lv:=0) o.ok (λ_=>?_) λe=>hx ?_))
 ·walk_at"c"
  refine qAP (lv:=0+2+5) rfl (by walk_at"lv") (qF3 (lv:=0) d.isRow o.dep (by decide) (by omega) ?_)
  walk_at"c"
  refine qAP (lv:=12) rfl (by walk_at"lv") (FN_c (qDl (lv:=0) hst inv hkl o.ok (λr S' e τ M' hst'=>?_) hx))
  have hk2:KpAt F τ kp a M' S' b:=(y14 G hst' hFG hGk hFk)
  have hk3:=hk2.at
  unfold kpMO at hk3
  walk_at"c"
  refine qBJ (by have:(qAF d.val).toArray.size=(qAF d.val).length:=List.size_toArray;omega) ?_
  walk_at"c"
  exact h r S' e _ _ (hk2.data _)
 ·have hc:(∀x vs,d≠.bad x vs)→qB9 d.wrd d.vls=true:=Deed.checks
  cases d with
  |bad x vs=>rfl
  |_=>rw[hc nofun]at e;cases e
end
section
theorem G_sliceI{ns:List Int}{y:Int}(hy:0≤y)(hz:ns.length≤sizeLine)(q:Q (.lst ((ns.take y.toNat).map .int)) σ):O2 c getItem (.lst (ns.map .int)) (.slc none (some y)) ρ σ Q X:=.mk λg R own s va vb S da db=>by
 refine da.on λa us ht hv=>?_
 refine db.on λ_ _ _ hs pl pu=>?_
 obtain⟨o,ho,r⟩:=hs
 have hI:=qEr hv
 have hl:us.length=ns.length:=by rw[hv.length,List.length_map]
 refine wpAny_getItem_list_slice (items:=us.toArray) (ht.at (S.rel.keep _)) (y12 o (S.rel.keep _ _ ho) r) pl pu .none (by simp) ?_ (by rw[List.size_toArray,hl];exact hz)
 obtain⟨g2,l2,S2,e⟩:=S.newObj (o:= {cls:=.type "list",data:=.seq (slicePick us.toArray none (some y) none)}) rfl
 exact(.mk g2 _ σ l2 S2 (.lst (vs:=(slicePick us.toArray none (some y) none).toList) (y13 _ e rfl ⟨_,rfl⟩) (qEq (kmk_upto hI hy))) q)
end
theorem ST_mono{st:Stmt}{N':Ro→Sg→Prop}{X:Ro→Addr→Sg→Prop}(h:ST c st ρ σ N Rt X)(k:∀r τ,N r τ→N' r τ):ST c st ρ σ N' Rt X:=.mk λg R own s S=>wpAny_mono (h.go g R own s S) (λfl s1 p=>by
  cases fl with
  |next=>exact p.el λg1 own1 ρ1 σ1 l1 S1 q=>(.mk g1 own1 ρ1 σ1 l1 S1 (k _ _ q))
  |ret v=>exact p
  |brk=>exact p
  |cont=>exact p) λ_ _ x=>x
def BoxL(n:Nat)(l:List D):Prop:=∃(cs:List Int) (g s p:Int),l= [.lst (cs.map .int),.int g,.int s,.int p]∧cs.length≤48∧0≤s∧s < 2147483647∧0≤p∧p≤n
theorem BoxL.mono{m:Nat}{l:List D}(h:BoxL n l)(k:n≤m):BoxL m l:=x4_6 h λa b c d e f g i j o=>(y46 a b c d e f g i j (Int.le_trans o (Int.ofNat_le.mpr k)))
theorem qAf{a b:Int}(hb:0 < b):0≤a.fmod b∧a.fmod b < b:=⟨Int.fmod_nonneg_of_pos a hb,Int.fmod_lt_of_pos a hb⟩
theorem natA{m:Int}(h:0 < m)(h2:m≤100000):m.natAbs < 1073741824:=by
 cases m with
 |ofNat k=>exact Nat.lt_of_le_of_lt (Int.ofNat_le.mp h2) (by decide)
 |negSucc k=>cases h
section
theorem qIs{ns:List Int}(hz:ns.length≤63)(h:∀a l,σ a=none→BoxL 0 l→Q (.obj a) (σ.set a (.list l))):FN w os (lv+1) 694 [.lst (ns.map .int)] σ Q X:=by
 have hcl:(ns.take 48).length≤48:=List.length_take▸Nat.min_le_left 48 _
 refine qA5 ["script"] rfl (len1 λ_=>rfl) λA fr L=>?_
 walk_at"e1"
 refine qAi (cl:=[]) (ρ':=[]) rfl ⟨rfl,by kernel_rfl!,rfl,qAA,trivial⟩ ?_
 refine qAG (α:=Int) (λi=>some (.int i)) ?_
 walk_at"e"
 refine G_sliceI (by decide) (by walk_at"sz") ?_
 rw[show(48:Int).toNat=48 from rfl]
 refine(y35 (ns.take 48) .int (λ_=>True) (by walk_at"sz") (qAN rfl) trivial (λx hx C=>.mk ?_) ?_)
 ·walk_at"e"
  exact C_int ⟨rfl,rfl⟩
 rw[show(ns.take 48).filterMap (λi=>some (D.int i))=(ns.take 48).map .int by rw[←List.filterMap_eq_map];rfl]
 generalize ns.take 48=cs at hcl
 walk_at"e1"
 walk_at"e1"
 walk_at"e1"
 walk_at"e1"
 refine ST_mono (N:=λρ1 τ=>τ=σ∧ρ1.lookup ("cells":Str)=some (.lst (cs.map .int))∧∃g,ρ1.lookup ("great":Str)=some (.int g)) ?_ ?_
 ·walk_at"e"
  refine T_lst (by walk_at"sm") ?_
  cases cs with
  |nil=>
   walk_at"e"
   exact(y03 rfl (by walk_at"nm") ⟨0,by walk_at"nm"⟩)
  |cons c0 cr=>
   walk_at"e"
   refine qE4 (k:=0) rfl rfl (by decide) ?_
   walk_at"e"
   refine C_abs ?_
   walk_at"e"
   refine O_pow (by decide) (by decide+kernel) ?_
   walk_at"e"
   cases e:decide ((if c0 < 0 then -c0 else c0) ≥ 10 ^ (15:Int).toNat)
   ·walk_at"e"
    exact(y03 rfl (by walk_at"nm") ⟨0,by walk_at"nm"⟩)
   ·walk_at"e"
    refine qE4 (k:=0) rfl rfl (by decide) ?_
    walk_at"e"
    refine C_abs ?_
    walk_at"e"
    refine qE3 (by decide) noPy ?_
    walk_at"e"
    refine O_pow (by decide) (by decide+kernel) ?_
    refine qE2 (by decide+kernel) ?_
    walk_at"e"
    exact(y03 rfl (by walk_at"nm") ⟨_,by walk_at"nm"⟩)
 rintro ρ1 τ ⟨rfl,h1,g,h2⟩
 walk_at"e"
 refine qBA (J:=λd τ1=>d= .lst (cs.map .int)∧τ1=τ) rfl (by walk_at"e";exact⟨rfl,rfl⟩) ?_
 rintro d τ1 ⟨rfl,rfl⟩
 refine(.mk _ (λ_=>True) (qAN rfl) (λi ρ2 τ2=>τ2=τ1∧ρ2.lookup ("cells":Str)=some (.lst (cs.map .int))∧ρ2.lookup ("great":Str)=some (.int g)∧∃s:Int,ρ2.lookup ("state":Str)=some (.int s)∧0≤s∧s < 2147483647) (y04 rfl (by walk_at"nm") (by walk_at"nm") ⟨1,by walk_at"nm",by decide,by decide⟩) (λ_ _ _ _=>trivial) ?_ ?_)
 ·rintro i ρ2 τ2 d hd ⟨rfl,h3,h4,s,h5,h6,h7⟩
  rw[List.getElem?_map]at hd
  obtain⟨y,hy,rfl⟩:=Option.map_eq_some_iff.mp hd
  walk_at"e"
  refine qEF (IntMulOk.of_right (by decide)) ?_
  walk_at"e"
  refine qE2 (by decide) ?_
  walk_at"e"
  refine qE2 (by decide) ?_
  walk_at"e"
  exact(y04 rfl (by walk_at"nm") (by walk_at"nm") ⟨_,by walk_at"nm",(qAf (by decide)).1,(qAf (by decide)).2⟩)
 ·rintro ρ2 τ2 ⟨rfl,h3,h4,s,h5,h6,h7⟩
  walk_at"e"
  refine qBP ?_
  walk_at"e"
  intro a na
  exact h a _ na (y46 cs g s 0 rfl hcl h6 h7 (by decide) (by decide))
theorem qIt{bx:Addr}{l:List D}{m:Int}(hb:σ bx=some (.list l))(hl:BoxL n l)(hn:n≤100000)(hm:0 < m)(hm2:m≤100000)(h:∀i l',0≤i→i < m→BoxL (n+1) l'→Q (.int i) (σ.set bx (.list l'))):FN w os (lv+1) 701 [.obj bx,.int m] σ Q X:=by
 obtain⟨cs,g,s,p,rfl,h1,h2,h3,h4,h5⟩:=hl
 have np:∀x:Int,Builtin.divisionGoesByPylong x m=false:=λx=>PyProof.noPylong_small (natA hm hm2)
 refine qA5 ["box","limit"] rfl (len2 λ_ _=>rfl) λA fr L=>?_
 walk_at"e"
 refine(.mk (qAw hb) (qBb (k:=3) hb rfl rfl (by decide) ?_))
 walk_at"e"
 refine qHW (k:=3) hb rfl (by show 3 < 4;decide) (by decide) ?_
 have hb1:=Sg.set_same σ bx (.list [.lst (cs.map .int),.int g,.int s,.int (p+1)])
 walk_at"e"
 refine(.mk (qAw hb1) (qBb (k:=1) hb1 rfl rfl (by decide) ?_))
 walk_at"e"
 cases e:decide (g > 0)
 ·walk_at"e"
  refine(.mk (qAw hb1) (qBb (k:=2) hb1 rfl rfl (by decide) ?_))
  walk_at"e"
  refine qEF (IntMulOk.of_right (by decide)) ?_
  walk_at"e"
  refine qEF (IntMulOk.of_left (intBits_le_64 (by omega) (by omega))) ?_
  walk_at"e"
  refine qE2 (by decide) ?_
  have hs:=qAf (a:=s * 16807+p * p+29) (b:=2147483647) (by decide)
  generalize (s * 16807+p * p+29).fmod 2147483647=s2 at hs ⊢
  walk_at"e"
  refine qHW (k:=2) hb1 rfl (by show 2 < 4;decide) (by decide) ?_
  have hb2:=Sg.set_same σ bx (.list [.lst (cs.map .int),.int g,.int s2,.int (p+1)])
  rw[Sg.set_set]
  walk_at"e"
  refine(.mk (qAw hb2) (qBb (k:=0) hb2 rfl rfl (by decide) ?_))
  walk_at"e"
  refine qHa (by walk_at"sm") ?_
  rw[List.length_map]
  walk_at"e"
  by_cases q:p < (cs.length:Int)
  ·rw[decide_eq_true q]
   obtain⟨c0,hc0⟩:∃c0,cs[p.toNat]? =some c0:=⟨_,List.getElem?_eq_getElem ((Int.toNat_lt h4).mpr q)⟩
   walk_at"e"
   refine(.mk (qAw hb2) (qBb (k:=0) hb2 rfl rfl (by decide) ?_))
   walk_at"e"
   refine qE4 (k:=p.toNat) (Int.toNat_of_nonneg h4).symm (by rw[List.getElem?_map,hc0];rfl) (by omega) ?_
   walk_at"e"
   refine qE2 (Int.ne_of_gt hm) ?_
   exact h _ _ (qAf hm).1 (qAf hm).2 (y46 cs g s2 (p+1) rfl h1 hs.1 hs.2 (Int.le_add_one h4) (Int.add_le_add_right h5 1))
  ·rw[decide_eq_false q]
   walk_at"e"
   refine(.mk (qAw hb2) (qBb (k:=2) hb2 rfl rfl (by decide) ?_))
   walk_at"e"
   refine qE3 (by decide) noPy ?_
   have hs3:0≤s2.fdiv 3∧s2.fdiv 3 < 2147483647:=by
    rw[Int.fdiv_eq_ediv_of_nonneg _ (by decide)];exact⟨Int.ediv_nonneg hs.1 (by decide),Int.lt_of_le_of_lt (Int.ediv_le_self 3 hs.1) hs.2⟩
   walk_at"e"
   refine O_pow (by decide) ?_ ?_
   ·have:Builtin.Int.intBits (s2.fdiv 3)≤64:=intBits_le_64 (Int.lt_of_lt_of_le (by decide) hs3.1) (Int.lt_trans hs3.2 (by decide))
    omega
   walk_at"e"
   refine qE2 (Int.ne_of_gt hm) ?_
   exact h _ _ (qAf hm).1 (qAf hm).2 (y46 cs g s2 (p+1) rfl h1 hs.1 hs.2 (Int.le_add_one h4) (Int.add_le_add_right h5 1))
 ·walk_at"e"
  refine(.mk (qAw hb1) (qBb (k:=1) hb1 rfl rfl (by decide) ?_))
  walk_at"e"
  refine qE2 (Int.ne_of_gt hm) ?_
  walk_at"e"
  refine(.mk (qAw hb1) (qBb (k:=1) hb1 rfl rfl (by decide) ?_))
  walk_at"e"
  refine qE3 (Int.ne_of_gt hm) (np _) ?_
  walk_at"e"
  refine qHW (k:=1) hb1 rfl (by show 1 < 4;decide) (by decide) ?_
  rw[Sg.set_set]
  walk_at"e"
  exact h _ _ (qAf hm).1 (qAf hm).2 (y46 cs _ s (p+1) rfl h1 h2 h3 (Int.le_add_one h4) (Int.add_le_add_right h5 1))
end
noncomputable def qDx(x:Str):Bool:=x.cps.toList.all (λch=>decide (ch≤127)) && decide (x.length≤60)
structure VB(v:V):Prop where
 ok:v.ok
 len:v.enc.length≤330
 dep:v.dep≤1
theorem qBO(h:n≤127):(cntL n).length=1:=by rw[qAW (by omega)];rfl
theorem qI3(h:n < 2097152):(cntL n).length≤3:=by
 by_cases q:n > 127
 ·rw[qBh q,List.length_cons]
  by_cases q2:n / 128 > 127
  ·rw[qBh q2,List.length_cons,qBO (by rw[Nat.div_div_eq_div_mul];exact Nat.le_of_lt_succ (Nat.div_lt_of_lt_mul h))];exact Nat.le_refl _
  ·rw[qBO (by omega)];omega
 ·rw[qBO (by omega)];omega
theorem qDm(h:qDx x=true):(V.str x).ok∧(V.str x).enc.length≤62∧x.length≤60:=by
 unfold qDx at h
 simp only[Bool.and_eq_true,decide_eq_true_eq,List.all_eq_true]at h
 obtain⟨h1,h2⟩:=h
 have ht:(txtL x).length=x.length:=by
  unfold txtL Str.length
  rw[←Array.length_toList]
  have:∀l:List Nat,(∀ch∈l,ch≤127)→(l.flatMap cntL).length=l.length:=λl=>by
   induction l with
   |nil=>intro _;rfl
   |cons a r ih=>intro k;rw[List.flatMap_cons,List.length_append,qBO (k a List.mem_cons_self),ih λc m=>k c (List.mem_cons_of_mem _ m),List.length_cons];omega
  exact this _ h1
 refine(y03 ⟨λch m=>by have:=h1 ch m;omega,by omega⟩ ?_ h2)
 simp only[V.enc,List.length_cons,List.length_append,qBO (show x.length≤127 by omega),ht];omega
theorem qF6{i:Int}(h:qEe i):(V.int i).ok∧(V.int i).enc.length≤4:=by
 have hf:qCg i < 2097152:=by
  apply Int.ofNat_lt.mp
  by_cases q:i ≥ 0
  ·rw[qGd q];exact Int.lt_of_le_of_lt (Int.mul_le_mul_of_nonneg_left h.2 (by decide)) (by decide)
  ·rw[qGe q];have:=h.1;omega
 refine⟨?_,?_⟩
 ·simp only[V.ok];omega
 ·simp only[V.enc,List.length_cons];have:=qI3 hf;omega
theorem oks_of{l:List V}(h:∀v∈l,v.ok):V.oks l:=by
 induction l with
 |nil=>trivial
 |cons v r ih=>exact⟨h v List.mem_cons_self,ih λx m=>h x (List.mem_cons_of_mem _ m)⟩
theorem qIw{l:List V}(h:∀v∈l,v.enc.length≤k):(V.encs l).length≤l.length * k:=by
 induction l with
 |nil=>exact Nat.zero_le _
 |cons v r ih=>
  rw[V.encs,List.length_append,List.length_cons,Nat.succ_mul]
  have:=h v List.mem_cons_self
  have:=ih λx m=>h x (List.mem_cons_of_mem v m)
  omega
theorem qIy{l:List V}(h:∀v∈l,v.dep≤k):V.deps l≤k:=by
 induction l with
 |nil=>exact Nat.zero_le _
 |cons v r ih=>
  rw[V.deps]
  exact Nat.max_le.mpr ⟨h v List.mem_cons_self,ih λx m=>h x (List.mem_cons_of_mem v m)⟩
theorem qAm(h:qDx x=true):VB (.str x):=⟨(qDm h).1,by have:=(qDm h).2.1;omega,Nat.zero_le _⟩
theorem qET{i:Int}(h:qEe i):VB (.int i):=⟨(qF6 h).1,by have:=(qF6 h).2;omega,Nat.zero_le _⟩
theorem VB_bytes(h:b.size≤10):VB (.bytes b):=by
 refine⟨by simp only[V.ok];omega,?_,Nat.zero_le _⟩
 simp only[V.enc,List.length_cons,List.length_append,qBO (show b.size≤127 by omega),Array.length_toList];omega
theorem VB_tup{l:List V}(h:∀v∈l,v.ok∧v.enc.length≤k∧v.dep≤0)(hl:l.length≤100)(hk:l.length * k≤320):VB (.tup l):=by
 have:=qIw λv m=>(h v m).2.1
 have:=qIy λv m=>(h v m).2.2
 refine⟨⟨by omega,oks_of λv m=>(h v m).1⟩,?_,?_⟩
 ·simp only[V.enc,List.length_cons,List.length_append,qBO (show l.length≤127 by omega)];omega
 ·simp only[V.dep];omega
theorem qCr(h:∀x∈fs,qDx x=true)(hl:fs.length≤5):VB (qFO fs):=by
 refine VB_tup (k:=62) (λv m=>?_) (by rw[List.length_map];omega) (by rw[List.length_map];omega)
 obtain⟨x,hx,rfl⟩:=List.mem_map.mp m
 exact(y03 ((qDm (h x hx)).1) ((qDm (h x hx)).2.1) (Nat.le_refl _))
theorem qGx(h:∀x∈us,qEe x)(hl:us.length≤4):VB (qFc us):=by
 refine VB_tup (k:=4) (λv m=>?_) (by rw[List.length_map];omega) (by rw[List.length_map];omega)
 obtain⟨x,hx,rfl⟩:=List.mem_map.mp m
 exact(y03 ((qF6 (h x hx)).1) ((qF6 (h x hx)).2) (Nat.le_refl _))
theorem Deed.Ok.mkOk{d:Deed}(ok:d.ok)(hw:qDx d.wrd=true)(hv:∀v∈d.vls,VB v)(hl:d.vls.length≤5):d.Ok:=by
 have hv':∀v∈(V.str d.wrd::d.vls),VB v:=λv m=>by
  rcases List.mem_cons.mp m with rfl|m
  ·exact qAm hw
  ·exact hv v m
 have h1:=qIw λv m=>(hv' v m).len
 have h2:=qIy λv m=>(hv' v m).dep
 have h3:(V.str d.wrd::d.vls).length≤6:=by rw[List.length_cons];omega
 have h4:(V.str d.wrd::d.vls).length * 330≤1980:=by omega
 refine⟨ok,⟨by omega,oks_of λv m=>(hv' v m).ok⟩,?_,?_⟩
 ·unfold Deed.val;simp only[V.dep];omega
 ·unfold Deed.val;simp only[V.enc,List.length_cons,List.length_append,qBO (show d.vls.length+1≤127 by omega)];omega
noncomputable def namesL:List Str:=["INBOX","a","a/b","b","a/b/c","inbox/d","Inbox","a//b","b%"]
theorem qGY:namesL.all (λx=>qDx x)=true:=by decide+kernel
theorem qGf:flagsL.all (λx=>qDx x)=true:=by decide+kernel
theorem qAI(h:x∈namesL):qDx x=true:=List.all_eq_true.mp qGY x h
theorem qCi(h:x∈flagsL):qDx x=true:=List.all_eq_true.mp qGf x h
theorem qAe(h:x∈namesL):x.length≤100:=by have:=(qDm (qAI h)).2.2;omega
theorem qFW{v:Int}(hx:x∈namesL)(hv:qEe v):(Deed.create x v).Ok:=.mkOk (qAe hx) rfl (by simp only[Deed.vls,List.forall_mem_cons];exact(y03 (qAm (qAI hx)) (qET hv) nofun)) (by simp[Deed.vls])
theorem qIb(hx:x∈namesL):(Deed.delete x).Ok:=.mkOk (qAe hx) rfl (by simp only[Deed.vls,List.forall_mem_cons];exact⟨qAm (qAI hx),nofun⟩) (by simp[Deed.vls])
theorem qFV{y:Str}(hx:x∈namesL)(hy:y∈namesL):(Deed.rename x y).Ok:=.mkOk ⟨qAe hx,qAe hy⟩ rfl (by simp only[Deed.vls,List.forall_mem_cons];exact(y03 (qAm (qAI hx)) (qAm (qAI hy)) nofun)) (by simp[Deed.vls])
theorem qId{i:Int}{o:Array UInt8}(hx:x∈namesL)(hf:fsOk fs)(hi:qEe i)(ho:o.size≤10):(Deed.append x fs i o).Ok:=
 .mkOk (y03 (qAe hx) hf ho) rfl (by simp only[Deed.vls,List.forall_mem_cons];exact(y05 (qAm (qAI hx)) (qCr (λx m=>qCi (hf.1 x m)) hf.2) (qET hi) (VB_bytes ho) nofun)) (by simp[Deed.vls])
theorem ok_flags{i:Int}(hx:x∈namesL)(hf:fsOk fs)(hi:qEe i):(Deed.flags x i fs).Ok:=
 .mkOk ⟨qAe hx,hf⟩ rfl (by simp only[Deed.vls,List.forall_mem_cons];exact(y04 (qAm (qAI hx)) (qET hi) (qCr (λx m=>qCi (hf.1 x m)) hf.2) nofun)) (by simp[Deed.vls])
def usOk(us:List Int):Prop:=us.length≤4∧∀x∈us,qEe x
theorem ok_store{way:Str}{i:Int}(hx:x∈namesL)(hu:usOk us)(hw:way="+"∨way="-"∨way="=")(hf:fsOk fs)(hi:qEe i):(Deed.store x us way fs i).Ok:=
 .mkOk (y04 (qAe hx) hu.1 hf hw) rfl (by simp only[Deed.vls,List.forall_mem_cons];exact(y06 (qAm (qAI hx)) (qGx hu.2 hu.1) (qAm (by rcases hw with rfl|rfl|rfl <;> rfl)) (qCr (λx m=>qCi (hf.1 x m)) hf.2) (qET hi) nofun)) (by simp[Deed.vls])
theorem qHk(hx:x∈namesL)(hu:usOk us):(Deed.expunge x us).Ok:=.mkOk ⟨qAe hx,hu.1⟩ rfl (by simp only[Deed.vls,List.forall_mem_cons];exact(y03 (qAm (qAI hx)) (qGx hu.2 hu.1) nofun)) (by simp[Deed.vls])
theorem qIc{mv:Bool}{g:Str}(hx:x∈namesL)(hu:usOk us)(hg:g∈namesL):(Deed.copy mv x us g).Ok:=
 .mkOk (y03 (qAe hx) hu.1 (qAe hg)) (by cases mv <;> rfl) (by simp only[Deed.vls,List.forall_mem_cons];exact(y04 (qAm (qAI hx)) (qGx hu.2 hu.1) (qAm (qAI hg)) nofun)) (by simp[Deed.vls])
theorem ok_sub(hx:x∈namesL):(Deed.sub x).Ok:=.mkOk (qAe hx) rfl (by simp only[Deed.vls,List.forall_mem_cons];exact⟨qAm (qAI hx),nofun⟩) (by simp[Deed.vls])
theorem ok_unsub(hx:x∈namesL):(Deed.unsub x).Ok:=.mkOk (qAe hx) rfl (by simp only[Deed.vls,List.forall_mem_cons];exact⟨qAm (qAI hx),nofun⟩) (by simp[Deed.vls])
theorem qIa{i:Int}(hx:x∈namesL)(hi:qEe i):(Deed.forget x i).Ok:=.mkOk (qAe hx) rfl (by simp only[Deed.vls,List.forall_mem_cons];exact(y03 (qAm (qAI hx)) (qET hi) nofun)) (by simp[Deed.vls])
noncomputable def badL:List (Str × List V):=[("flags",[.str "INBOX",.str "1",.tup []]),("append",[.str "INBOX",.tup [],.int 0]),("burn",[.str "INBOX"]),("expunge",[.str "INBOX",.tup [.str "1"]])]
theorem ok_bad:∀p∈badL,(Deed.bad p.1 p.2).Ok:=by
 have hi:qDx "INBOX"=true:=rfl
 have h1:qDx "1"=true:=rfl
 simp only[badL,List.forall_mem_cons]
 refine(y05 (.mkOk (y03 (by decide+kernel) (by decide) ?_) rfl ?_ (by decide)) (.mkOk (y03 (by decide+kernel) (by decide) ?_) rfl ?_ (by decide)) (.mkOk (y03 (by decide+kernel) (by decide) ?_) rfl ?_ (by decide)) (.mkOk (y03 (by decide+kernel) (by decide) ?_) rfl ?_ (by decide)) nofun)
 all_goals first
  |(simp only[Deed.vls,List.forall_mem_cons];exact(y04 (qAm hi) (qAm h1) (qCr (fs:=[]) nofun (by decide)) nofun))
  |(simp only[Deed.vls,List.forall_mem_cons];exact(y04 (qAm hi) (qCr (fs:=[]) nofun (by decide)) (qET ⟨by decide,by decide⟩) nofun))
  |(simp only[Deed.vls,List.forall_mem_cons];exact(y03 (qAm hi) (qCr (fs:=["1"]) (by simp only[List.forall_mem_cons];exact⟨h1,nofun⟩) (by decide)) nofun))
  |(simp only[Deed.vls,List.forall_mem_cons];exact⟨qAm hi,nofun⟩)
  |(intro v hv l e;simp only[List.mem_cons,List.not_mem_nil,or_false]at hv;(rcases hv with rfl|rfl|rfl) <;> first| (cases e;done)| (cases e;decide))
  |(intro v hv l e;simp only[List.mem_cons,List.not_mem_nil,or_false]at hv;(rcases hv with rfl|rfl) <;> first| (cases e;done)| (cases e;decide))
  |(intro v hv l e;simp only[List.mem_cons,List.not_mem_nil,or_false]at hv;subst hv;cases e)
theorem qBM{α:Type}{l:List α}{i:Int}(h0:0≤i)(h1:i < l.length):∃x,l[i.toNat]? =some x∧x∈l:=
 (y12 _ (List.getElem?_eq_getElem ((Int.toNat_lt h0).mpr h1)) (List.getElem_mem _))
theorem small4{j:Nat}(h:j < 5):(4:Int) - (0+(j:Int))=((4 - j:Nat):Int):=by rw[Int.zero_add];exact(Int.ofNat_sub (Nat.le_of_lt_succ h)).symm
noncomputable def flags5:List Str:=["\\Seen","\\deleted","key","\\FLAGGED","Key"]
noncomputable def qEE(m:Int)(i:Nat):Bool:=Builtin.bitAnd (m.fdiv (2 ^ ((0:Int)+(i:Int)).toNat)) 1==1
theorem qFi(j:Nat):flags5[4 - j]? =some (flags5.getD (4 - j) ""):=by
 rw[List.getD_eq_getElem?_getD,List.getElem?_eq_getElem (show 4 - j < 5 from Nat.lt_succ_of_le (Nat.sub_le 4 j))];rfl
theorem qIo{α β γ:Type}(p:α→Bool)(g:α→β)(f:β→γ)(l:List α):(l.filterMap λj=>if p j then some (f (g j))else none)=(l.filterMap λj=>if p j then some (g j)else none).map f:=by
 rw[List.map_filterMap]
 congr 1
 funext j
 split <;> rfl
section
variable {bx:Addr}{l:List D}
theorem qB3{m:Int}(hl:BoxL n l)(hn:n≤100000)(hm:0 < m)(hm2:m≤100000)(h:∀i l',0≤i→i < m→BoxL (n+1) l'→Q (.int i) (σ.set bx (.list l'))):FN w os (lv+1) 701 [.obj bx,.int m] (σ.set bx (.list l)) Q X:=
 qIt (Sg.set_same _ _ _) hl hn hm hm2 λi l' h1 h2 h3=>by rw[Sg.set_set];exact h i l' h1 h2 h3
theorem qHO(hl:BoxL n l)(hn:n≤90000)(h:∀x l',x∈namesL→BoxL (n+1) l'→Q (.str x) (σ.set bx (.list l'))):FN w os (lv+2) 708 [.obj bx] (σ.set bx (.list l)) Q X:=by
 refine qA5 ["box"] rfl (len1 λ_=>rfl) λA fr L=>?_
 walk_at"e"
 refine qAR ?_
 walk_at"e"
 walk_at"e"
 refine qA1 (lv:=1) rfl (by walk_at"lv") (qB3 (lv:=0) hl (by omega) (by decide) (by decide) λi l' h1 h2 h3=>?_)
 obtain⟨x,hx,hm⟩:=qBM (l:=namesL) h1 h2
 refine qE0 ?_
 refine qE4 (k:=i.toNat) (by omega) (show(namesL.map D.str)[i.toNat]? =some (.str x) by rw[List.getElem?_map,hx];rfl) (by omega) (h x l' hm h3)
theorem qGo(hl:BoxL n l)(hn:n≤90000)(h:∀fs l',fsOk fs→BoxL (n+1) l'→Q (.tup (fs.map .str)) (σ.set bx (.list l'))):FN w os (lv+2) 713 [.obj bx] (σ.set bx (.list l)) Q X:=by
 refine qA5 ["box"] rfl (len1 λ_=>rfl) λA fr L=>?_
 walk_at"e"
 refine qA1 (lv:=1) rfl (by walk_at"lv") (qB3 (lv:=0) hl (by omega) (by decide) (by decide) λi l' h1 h2 h3=>?_)
 walk_at"e"
 refine qAR ?_
 walk_at"e"
 cases e:decide (i > 31)
 ·walk_at"e"
  refine qAO (cl:=[("some",L+2),("mask",L+1)]) (ρ':=[("mask",.int i),("some",.lst (flags5.map .str))]) ⟨rfl,by kernel_rfl!,rfl,qAH rfl (.inl rfl) (qAH rfl (.inl rfl) qAA),(y03 (.inl rfl) rfl (by walk_at"nm")),(y03 (.inl rfl) rfl (by walk_at"nm")),trivial⟩ ?_
  refine qAG (α:=Nat) (λj=>if qEE i j then some (.str (flags5.getD (4 - j) ""))else none) ?_
  walk_at"e"
  refine qBE λt u v=>?_
  refine(y35 (List.range 5) (λj=>.int (0+(j:Nat))) (λ_=>True) (by decide+kernel) (qB4 rfl (by decide) (by decide)) trivial (λj hj C=>.mk ?_) ?_)
  ·have hj:j < 5:=List.mem_range.mp hj
   walk_at"e"
   refine qJc (by omega) ?_
   walk_at"e"
   refine qIF ?_
   walk_at"e"
   generalize hq:(Builtin.bitAnd (i.fdiv (2 ^ ((0:Int)+(j:Int)).toNat)) 1==1)=q
   rw[show qEE i j=q from hq]
   cases q
   ·walk_at"e"
    exact⟨rfl,rfl⟩
   ·walk_at"e"
    exact qE4 (k:=4 - j) (small4 hj) (by rw[List.getElem?_map,qFi];rfl) (by omega) ⟨rfl,rfl⟩
  rw[qIo (qEE i) (λj=>flags5.getD (4 - j) "") D.str]
  walk_at"e"
  refine qBy (by rw[List.length_map];have:=List.length_filterMap_le (λj=>if qEE i j then some (flags5.getD (4 - j) "")else none) (List.range 5);rw[List.length_range]at this;unfold sizeLine;omega) ?_
  refine h _ l' ⟨λx m=>?_,by have:=List.length_filterMap_le (λj=>if qEE i j then some (flags5.getD (4 - j) "")else none) (List.range 5);rwa[List.length_range]at this⟩ h3
  obtain⟨j,_,e⟩:=List.mem_filterMap.mp m
  split at e
  ·injection e with e;subst e
   have h5:flags5.all (λx=>decide (x∈flagsL))=true:=by decide+kernel
   exact of_decide_eq_true (List.all_eq_true.mp h5 _ (List.mem_of_getElem? (qFi j)))
  ·cases e
 ·walk_at"e"
  exact h ["\\Seen","no flag"] l' ⟨by decide+kernel,by decide⟩ h3
theorem qIz(hl:BoxL n l)(hn:n≤90000)(h:∀us l',usOk us→BoxL (n+1) l'→Q (.tup (us.map .int)) (σ.set bx (.list l'))):FN w os (lv+2) 718 [.obj bx] (σ.set bx (.list l)) Q X:=by
 refine qA5 ["box"] rfl (len1 λ_=>rfl) λA fr L=>?_
 walk_at"e"
 refine qA1 (lv:=1) rfl (by walk_at"lv") (qB3 (lv:=0) hl (by omega) (by decide) (by decide) λi l' h1 h2 h3=>?_)
 walk_at"e"
 refine qAO (cl:=[("mask",L+1)]) (ρ':=[("mask",.int i)]) ⟨rfl,by kernel_rfl!,rfl,qAH rfl (.inl rfl) qAA,(y03 (.inl rfl) rfl (by walk_at"nm")),trivial⟩ ?_
 refine qAG (α:=Nat) (λj=>if qEE i j then some (.int (4 - (0+(j:Int))))else none) ?_
 walk_at"e"
 refine qBE λt u v=>?_
 refine(y35 (List.range 4) (λj=>.int (0+(j:Nat))) (λ_=>True) (by decide+kernel) (qB4 rfl (by decide) (by decide)) trivial (λj hj C=>.mk ?_) ?_)
 ·walk_at"e"
  refine qJc (by omega) ?_
  walk_at"e"
  refine qIF ?_
  walk_at"e"
  generalize hq:(Builtin.bitAnd (i.fdiv (2 ^ ((0:Int)+(j:Int)).toNat)) 1==1)=q
  rw[show qEE i j=q from hq]
  cases q
  ·walk_at"e"
   exact⟨rfl,rfl⟩
  ·walk_at"e"
   exact⟨rfl,rfl⟩
 rw[qIo (qEE i) (λj=>4 - (0+(j:Int))) D.int]
 walk_at"e"
 refine qBy (by rw[List.length_map];have:=List.length_filterMap_le (λj=>if qEE i j then some (4 - (0+(j:Int)))else none) (List.range 4);rw[List.length_range]at this;unfold sizeLine;omega) ?_
 refine h _ l' ⟨by have:=List.length_filterMap_le (λj=>if qEE i j then some (4 - (0+(j:Int)))else none) (List.range 4);rwa[List.length_range]at this,λx m=>?_⟩ h3
 obtain⟨j,hj,e⟩:=List.mem_filterMap.mp m
 have hj:=List.mem_range.mp hj
 split at e
 ·injection e with e;subst e;exact⟨by omega,by omega⟩
 ·cases e
end
theorem opSigns:∀ch∈("+-=":Str).cps.toList,(⟨#[ch]⟩:Str)="+"∨(⟨#[ch]⟩:Str)="-"∨(⟨#[ch]⟩:Str)="=":=by decide+kernel
section
variable {bx:Addr}{l:List D}
theorem d_deed(hs:StAt F (σ.set bx (.list l)) a M S)(hF:F bx=some (.list l))(hl:BoxL n l)(hn:n≤80000)(nv:2≤S.nextv∧S.nextv≤1000)
  (h:∀(d:Deed) l',d.Ok→d.near S→BoxL (n+20) l'→Q d.val.toD (σ.set bx (.list l'))):FN w os (lv+4) 723 [.obj bx,.obj a] (σ.set bx (.list l)) Q X:=by
 have hD:∀(d:Deed) l',d.Ok→d.near S→BoxL (n+20) l'→Q (.tup (.str d.wrd::d.vls.map V.toD)) (σ.set bx (.list l')):=λd l' a b c=>by rw[←Deed.toD];exact h d l' a b c
 clear h
 obtain⟨ad,h1,h2,ne⟩:=hs.cells
 have nab:a≠bx:=λq=>by have:=hs.fa;rw[q,hF]at this;cases this
 have hsa:∀l',(σ.set bx (.list l')) a=some (S.mo ad):=λl'=>by rw[Sg.set_ne _ _ nab]at h1 ⊢;exact h1
 clear h1 h2 hs
 refine qA5 ["box","store"] rfl (len2 λ_ _=>rfl) λA fr L=>?_
 walk_at"e"
 refine qA1 (lv:=1) rfl (by walk_at"lv") (qB3 (lv:=0) hl (by omega) (by decide) (by decide) λi l1 i0 i1 hl1=>?_)
 walk_at"e1"
 walk_at"e1"
 refine WE.mono (Q:=λd τ=>∃x l2,x∈namesL∧BoxL (n+2) l2∧d= .str x∧τ=σ.set bx (.list l2)) ?_ ?_
 ·walk_at"e"
  cases e:decide (i > 4)
  ·walk_at"e"
   refine qAR ?_
   walk_at"e"
   refine qA1 (lv:=1) rfl (by walk_at"lv") (qB3 (lv:=0) hl1 (by omega) (by decide) (by decide) λj l2 j0 j1 hl2=>?_)
   obtain⟨x,hx,hm⟩:=qBM (l:=(["INBOX","a","b"]:List Str)) j0 j1
   refine(.mk SO_lst (qE4 (k:=j.toNat) (by omega) (show((["INBOX","a","b"]:List Str).map D.str)[j.toNat]? =some (.str x) by rw[List.getElem?_map,hx];rfl) (by omega) (y24 x l2 ?_ hl2 rfl rfl)))
   exact(show ∀y∈(["INBOX","a","b"]:List Str),y∈namesL by decide+kernel) x hm
  ·walk_at"e"
   exact qA1 (lv:=2) rfl (by walk_at"lv") (qHO (lv:=0) hl1 (by omega) λx l2 hx hl2=>(y24 x l2 hx hl2 rfl rfl))
 rintro d τ ⟨x,l2,hx,hl2,rfl,rfl⟩
 have hsa2:=hsa l2
 walk_at"e"
 cases q5:(i==5)
 rotate_left
 ·walk_at"e"
  refine qAR ?_
  walk_at"e"
  refine qA1 (lv:=1) rfl (by walk_at"lv") (qB3 (lv:=0) hl2 (by omega) (by decide) (by decide) λj l3 j0 j1 hl3=>?_)
  obtain⟨v,hv,hm⟩:=qBM (l:=([0,3,0,-1]:List Int)) j0 j1
  have hvb: -1≤v∧v≤3:=(show ∀y∈([0,3,0,-1]:List Int),-1≤y∧y≤3 by decide) v hm
  refine qE0 ?_
  refine qE4 (k:=j.toNat) (by omega) (show(([0,3,0,-1]:List Int).map D.int)[j.toNat]? =some (.int v) by rw[List.getElem?_map,hv];rfl) (by omega) ?_
  walk_at"e"
  have h':=hD (.create x (S.nextv+v)) l3 (qFW hx ⟨by omega,by omega⟩) (show S.nextv+v≤S.nextv+3 by omega) (BoxL.mono hl3 (by omega))
  walk_at"leaf"
 walk_at"e"
 cases q6:(i==6)
 rotate_left
 ·walk_at"e"
  have h':=hD (.delete x) l2 (qIb hx) trivial (BoxL.mono hl2 (by omega))
  walk_at"leaf"
 walk_at"e"
 cases q7:(i==7)
 rotate_left
 ·walk_at"e"
  refine qA1 (lv:=2) rfl (by walk_at"lv") (qHO (lv:=0) hl2 (by omega) λy l3 hy hl3=>?_)
  walk_at"e"
  have h':=hD (.rename x y) l3 (qFV hx hy) trivial (BoxL.mono hl3 (by omega))
  walk_at"leaf"
 walk_at"e"
 cases q8:(i==8)
 rotate_left
 ·walk_at"e"
  refine qA1 (lv:=2) rfl (by walk_at"lv") (qHO (lv:=0) hl2 (by omega) λy l3 hy hl3=>?_)
  walk_at"e"
  have h':=hD (.rename x y) l3 (qFV hx hy) trivial (BoxL.mono hl3 (by omega))
  walk_at"leaf"
 walk_at"e"
 cases q9:(i==9)
 rotate_left
 ·walk_at"e"
  refine qA1 (lv:=1) rfl (by walk_at"lv") (qB3 (lv:=0) hl2 (by omega) (by decide) (by decide) λj l3 j0 j1 hl3=>?_)
  walk_at"e"
  refine qA1 (lv:=2) rfl (by walk_at"lv") (qGo (lv:=0) hl3 (by omega) λfs l4 hfs hl4=>?_)
  walk_at"e"
  have h':=hD (.flags x (1+j) fs) l4 (ok_flags hx hfs ⟨by omega,by omega⟩) trivial (BoxL.mono hl4 (by omega))
  walk_at"leaf"
 walk_at"e"
 cases q10:(i==10)
 rotate_left
 ·walk_at"e"
  refine qA1 (lv:=2) rfl (by walk_at"lv") (qIz (lv:=0) hl2 (by omega) λus l3 hus hl3=>?_)
  walk_at"e"
  refine qA1 (lv:=1) rfl (by walk_at"lv") (qB3 (lv:=0) hl3 (by omega) (by decide) (by decide) λj l4 j0 j1 hl4=>?_)
  obtain⟨ch,hch,hm⟩:=qBM (l:=("+-=":Str).cps.toList) j0 j1
  refine Sb_str ?_
  refine G_str (k:=j.toNat) (by omega) (by simpa using hch) (by omega) ?_
  walk_at"e"
  refine qA1 (lv:=2) rfl (by walk_at"lv") (qGo (lv:=0) hl4 (by omega) λfs l5 hfs hl5=>?_)
  walk_at"e"
  refine qA1 (lv:=1) rfl (by walk_at"lv") (qB3 (lv:=0) hl5 (by omega) (by decide) (by decide) λk l6 k0 k1 hl6=>?_)
  walk_at"e"
  have h':=hD (.store x us ⟨#[ch]⟩ fs (k - 3)) l6 (ok_store hx hus (opSigns ch hm) hfs ⟨by omega,by omega⟩) trivial (BoxL.mono hl6 (by omega))
  walk_at"leaf"
 walk_at"e"
 cases q11:(i==11)
 rotate_left
 ·walk_at"e"
  refine qA1 (lv:=2) rfl (by walk_at"lv") (qIz (lv:=0) hl2 (by omega) λus l3 hus hl3=>?_)
  walk_at"e"
  have h':=hD (.expunge x us) l3 (qHk hx hus) trivial (BoxL.mono hl3 (by omega))
  walk_at"leaf"
 walk_at"e"
 cases q12:(i==12)
 rotate_left
 ·walk_at"e"
  refine qAR ?_
  walk_at"e"
  refine qA1 (lv:=1) rfl (by walk_at"lv") (qB3 (lv:=0) hl2 (by omega) (by decide) (by decide) λj l3 j0 j1 hl3=>?_)
  obtain⟨y,hy,hm⟩:=qBM (l:=(["copy","move"]:List Str)) j0 j1
  refine qE0 ?_
  refine qE4 (k:=j.toNat) (by omega) (show((["copy","move"]:List Str).map D.str)[j.toNat]? =some (.str y) by rw[List.getElem?_map,hy];rfl) (by omega) ?_
  walk_at"e"
  refine qA1 (lv:=2) rfl (by walk_at"lv") (qIz (lv:=0) hl3 (by omega) λus l4 hus hl4=>?_)
  walk_at"e"
  refine qA1 (lv:=2) rfl (by walk_at"lv") (qHO (lv:=0) hl4 (by omega) λg l5 hg hl5=>?_)
  walk_at"e"
  rcases(show ∀y∈(["copy","move"]:List Str),y="copy"∨y="move" by decide+kernel) y hm with rfl|rfl
  ·have h':=hD (.copy false x us g) l5 (qIc hx hus hg) trivial (BoxL.mono hl5 (by omega))
   walk_at"leaf"
  ·have h':=hD (.copy true x us g) l5 (qIc hx hus hg) trivial (BoxL.mono hl5 (by omega))
   walk_at"leaf"
 walk_at"e"
 cases q13:(i==13)
 rotate_left
 ·walk_at"e"
  refine qAR ?_
  walk_at"e"
  refine qA1 (lv:=1) rfl (by walk_at"lv") (qB3 (lv:=0) hl2 (by omega) (by decide) (by decide) λj l3 j0 j1 hl3=>?_)
  obtain⟨y,hy,hm⟩:=qBM (l:=(["subscribe","unsubscribe"]:List Str)) j0 j1
  refine qE0 ?_
  refine qE4 (k:=j.toNat) (by omega) (show((["subscribe","unsubscribe"]:List Str).map D.str)[j.toNat]? =some (.str y) by rw[List.getElem?_map,hy];rfl) (by omega) ?_
  walk_at"e"
  rcases(show ∀y∈(["subscribe","unsubscribe"]:List Str),y="subscribe"∨y="unsubscribe" by decide+kernel) y hm with rfl|rfl
  ·have h':=hD (.sub x) l3 (ok_sub hx) trivial (BoxL.mono hl3 (by omega))
   walk_at"leaf"
  ·have h':=hD (.unsub x) l3 (ok_unsub hx) trivial (BoxL.mono hl3 (by omega))
   walk_at"leaf"
 walk_at"e"
 cases q14:(i==14)
 rotate_left
 ·walk_at"e"
  refine qA1 (lv:=1) rfl (by walk_at"lv") (qB3 (lv:=0) hl2 (by omega) (by decide) (by decide) λj l3 j0 j1 hl3=>?_)
  walk_at"e"
  have h':=hD (.forget x j) l3 (qIa hx ⟨by omega,by omega⟩) trivial (BoxL.mono hl3 (by omega))
  walk_at"leaf"
 walk_at"e"
 cases q2:decide (i > 2)
 rotate_left
 ·walk_at"e"
  have h':=hD (.create x S.nextv) l2 (qFW hx ⟨by omega,by omega⟩) (show S.nextv≤S.nextv+3 by omega) (BoxL.mono hl2 (by omega))
  walk_at"leaf"
 walk_at"e"
 refine qAO (cl:=[("box",L+1)]) (ρ':=[("box",.obj bx)]) ⟨rfl,by kernel_rfl!,rfl,qAH rfl (.inl rfl) qAA,(y03 (.inl rfl) rfl (by walk_at"nm")),trivial⟩ ?_
 unfold COMP
 walk_at"e"
 refine qA1 (lv:=1) rfl (by walk_at"lv") (qB3 (lv:=0) hl2 (by omega) (by decide) (by decide) λk l3 k0 k1 hl3=>?_)
 walk_at"e"
 refine qBE λt u v=>?_
 have hil:(qCJ 0 k).length=k.toNat:=qBX k
 refine(.mk _ (λ_=>True) (by rw[hil];unfold sizeLine;omega) (qB4 rfl (by decide) (by omega)) (λj ys τ=>∃(ns:List Int) (l':List D),ys=ns.map .int∧(∀x∈ns,0≤x∧x < 256)∧ns.length=j∧BoxL (n+3+j) l'∧τ=σ.set bx (.list l')) (y25 [] l3 rfl nofun rfl hl3 rfl) (λ_ _ _ _=>trivial) ?_ ?_)
 ·rintro j ys τ1 d hd ⟨ns,l4,rfl,r1,r2,r3,rfl⟩ C
  have hj:j < 3:=Nat.lt_of_lt_of_le (qCR hd) (by omega)
  obtain rfl:=qDF hd
  clear hd
  refine .mk ?_
  walk_at"e"
  refine qA1 (lv:=1) rfl (by simp only[Cx.comp,cxOf];omega) (qB3 (lv:=0) r3 (by omega) (by decide) (by decide) λm l5 m0 m1 hl5=>?_)
  exact(y25 (ns++ [m]) l5 (by rw[List.map_append];rfl) (λy hy=>by
   rcases List.mem_append.mp hy with hy|hy
   ·exact r1 y hy
   ·rw[List.mem_singleton.mp hy];exact⟨m0,m1⟩) (by rw[List.length_append,r2];rfl) hl5 rfl)
 ·rintro ys τ1 ⟨ns,l4,rfl,r1,r2,r3,rfl⟩ _
  rw[hil]at r2 r3
  walk_at"e"
  refine qFK rfl r1 (by walk_at"sz") ?_
  walk_at"e"
  refine qA1 (lv:=2) rfl (by walk_at"lv") (qGo (lv:=0) r3 (by omega) λfs l5 hfs hl5=>?_)
  walk_at"e"
  refine qA1 (lv:=1) rfl (by walk_at"lv") (qB3 (lv:=0) hl5 (by omega) (by decide) (by decide) λm l6 m0 m1 hl6=>?_)
  walk_at"e"
  have h':=hD (.append x fs (m - 1000) (byteArr ns)) l6 (qId hx hfs ⟨by omega,by omega⟩ (by rw[byteArr_size];omega)) trivial (BoxL.mono hl6 (by omega))
  walk_at"leaf"
end
noncomputable def fnpOk(ns:List Str)(st:Stmt)(cd:Addr)(qual:Str):Bool:=decide ((cd,qual)∈codeT∧ns.Nodup∧(∀x∈ns,(qA3 st).names.lookup x=some .local)∧(∀x∈(qA3 st).names,x.2≠.cell)∧(qA3 st).names.lookup qAj=none)
theorem FNp_of{ka stA:Addr}{st:Stmt}{name qual:Str}{dV pm:Value}{cd:Addr}(ns:List Str)
  (hK:(KF w.params).lookup a=some (fnO st name qual dV pm cd))
  (hb:∀vs:List Value,vs.length=ns.length→bindArgs (fdOf st name qual dV pm cd) ⟨vs,[]⟩=pure (ns.zip vs))
  (body:∀A fr L,STs (qDT w os lv A fr (newEnv (qA3 st) L mainGlobals [] (qual++".<locals>.") (some a) (.ref cd) none builtinsNs) (some ka)) (qBs st) ((qAj,.obj stA)::ns.zip as) σ (λ_ τ=>Q .none τ) Q (λ_=>X))
  (hok:autoParam (true=fnpOk ns st cd qual) auK)(hl:autoParam (ns.length=as.length) auR)
  (hk:autoParam (.function=(qA3 st).kind) auR)(hco:autoParam (false=(qA3 st).isCoroutine) auR)(hgen:autoParam (false=(qA3 st).isGenerator) auR):FNp w os (lv+1) ka stA a as σ Q X:=
 have hok:=of_decide_eq_true hok.symm
 qJe ns hK hok.1 (λg s vs wd k dvs=>(y23 as vs dvs (qFA dvs hl.symm hb) body)) hok.2.1 hok.2.2.1 hok.2.2.2.1 hok.2.2.2.2 hk hco hgen
theorem qJo{ka st:Addr}{f:Heap→Value→Prop}{Q':D→Sg→Prop}{X':Addr→Sg→Prop}(h:CALp w os lv ka st f as σ Q' X')(k:∀d τ,Q' d τ→Q d τ)(kx:∀C τ,X' C τ→X C τ):CALp w os lv ka st f as σ Q X:=λA fr g R s vf vs hk rm fo rel wd hgs hos e dvs=>
 codeAny_mono (h A fr g R s vf vs hk rm fo rel wd hgs hos e dvs) λ_ _ p=>p.mono k kx
theorem FNc_mono{Q':D→Sg→Prop}{X':Addr→Sg→Prop}(h:FNc w os lv a as σ Q' X')(k:∀d τ,Q' d τ→Q d τ)(kx:∀C τ,X' C τ→X C τ):FNc w os lv a as σ Q X:=λA fr g R s vf vs rm fo rel wd hgs hos e dvs=>
 qBZ (h A fr g R s vf vs rm fo rel wd hgs hos e dvs) λ_ _ p=>p.mono k kx
section
variable {bx:Addr}{l:List D}
theorem d_any(hs:StAt F (σ.set bx (.list l)) a M S)(hF:F bx=some (.list l))(hl:BoxL n l)(hn:n≤70000)(nv:2≤S.nextv∧S.nextv≤1000)
  (h:∀(d:Deed) l',d.Ok→d.near S→BoxL (n+21) l'→Q d.val.toD (σ.set bx (.list l'))):FN w os (lv+5) 730 [.obj bx,.obj a] (σ.set bx (.list l)) Q X:=by
 refine qA5 ["box","store"] rfl (len2 λ_ _=>rfl) λA fr L=>?_
 walk_at"e"
 refine qA1 (lv:=1) rfl (by walk_at"lv") (qB3 (lv:=0) hl (by omega) (by decide) (by decide) λi l1 i0 i1 hl1=>?_)
 walk_at"e"
 cases q:(i==7)
 ·walk_at"e"
  have hs1:=hs.set hF (.list l1)
  rw[Sg.set_set]at hs1
  exact qA1 (lv:=4) rfl (by walk_at"lv") (d_deed (lv:=0) hs1 (Sg.set_same _ _ _) hl1 (by omega) nv λd l' o nr b=>h d l' o nr (b.mono (by omega)))
 ·walk_at"e"
  refine qAR ?_
  walk_at"e"
  refine qA1 (lv:=1) rfl (by walk_at"lv") (qB3 (lv:=0) hl1 (by omega) (by decide) (by decide) λj l2 j0 j1 hl2=>?_)
  obtain⟨p,hp,hm⟩:=qBM (l:=badL) j0 j1
  refine qE0 ?_
  refine qE4 (k:=j.toNat) (by omega) (show(badL.map λp=>(Deed.bad p.1 p.2).val.toD)[j.toNat]? =some _ by rw[List.getElem?_map,hp];rfl) (by omega) (h _ l2 (ok_bad p hm) trivial (hl2.mono (by omega)))
theorem qFs{ka st:Addr}{fd:FuncData}(ho:o.data= .func fd)
  (h:CALp w os lv ka st (λg v=>DV g (.fn o) v) [d] σ (λr τ=>Q (.tup [.str "done",r]) τ) (λC τ=>C=76∧Q (.tup [.str "refused",.int 0]) τ)):FNp w os (lv+1) ka st 737 [.fn o,d] σ Q X:=by
 refine FNp_of ["deed","row"] rfl (len2 λ_ _=>rfl) λA fr L=>?_
 walk_at"e1"
 refine qEV rfl (T:=76) (by decide) rfl qBC ?_
 walk_at"e"
 refine(.mk (Kept_fn' ho) ?_)
 walk_at"e"
 refine OC_p (lv:=lv) (F:=λg v=>DV g (.fn o) v) rfl (Nat.le_refl _) (λ_ _ dv=>dv) (keep_kp rfl rfl (show(qA3 (stAt 110)).names.lookup qAj=none by decide+kernel) rfl) (qJo h (λr τ q=>?_) λC τ q=>⟨q.1,λea=>?_⟩)
 ·walk_at"e"
  exact q
 ·walk_at"e"
  exact q.2
theorem qFt{kp:Addr}(h:FNc w os lv 675 [.obj kp,d] σ (λr τ=>Q (.tup [.str "done",r]) τ) (λC τ=>C=76∧Q (.tup [.str "refused",.int 0]) τ)):FNc w os (lv+1) 737 [.raw (methodObj (.ref 675) (.ref kp)),d] σ Q X:=by
 refine qBx ["deed","row"] rfl (len2 λ_ _=>rfl) λA fr L=>?_
 walk_at"c1"
 refine STc_Try rfl (T:=76) (by decide) rfl qBC ?_
 walk_at"c"
 refine(.mk (qIG (f:=675) (o:=fnO (meAt 101 2) "do" "Keeper.do" (.none) (.str "postkeep.store" 767) 674) rfl rfl) ?_)
 walk_at"c"
 refine qJd (lv:=lv) rfl (Nat.le_refl _) (FNc_mono h (λr τ q=>?_) λC τ q=>⟨q.1,λea=>?_⟩)
 ·walk_at"c"
  exact q
 ·walk_at"e"
  exact q.2
end
theorem Fam.up{P:List Slot}(h:Fam F σ P)(k:σ.Sub τ):Fam F τ P:=⟨h.sub.trans k,λp m=>⟨k _ _ (h.ok p m).1,k _ _ (h.ok p m).2⟩,h.nb,h.nl,h.fr⟩
theorem StAt.up(h:StAt F σ a L S)(k:σ.Sub τ):StAt F τ a L S:=
 x3_1 h λG ad P w=>(y31 G ad P ⟨w.fam.up k,w.sub,w.st,w.dc,w.fa,w.fd,w.nd,w.hb,w.hl⟩)
theorem KpAt.up{kp:Addr}(h:KpAt F σ kp a L S b)(k:σ.Sub τ):KpAt F τ kp a L S b:=x1_4 h λG hs s e n=>(y14 G (hs.up k) s e n)
theorem KpAt.subF{kp:Addr}(h:KpAt F σ kp a L S b):F.Sub σ:=x1_4 h λ_ hs s _ _=>s.trans hs.subF
theorem KpAt.set{kp x:Addr}{o:MO}(h:KpAt F σ kp a L S b)(e:F x=some o)(o':MO):KpAt (F.set x o') (σ.set x o') kp a L S b:=by
 obtain⟨G,hs,s,e1,n⟩:=h
 have ne:kp≠x:=λq=>by rw[←q,n]at e;cases e
 exact(y14 _ (hs.set (s _ _ e) o') (s.set x o') (by rw[Sg.set_ne _ _ ne];exact e1) (by rw[Sg.set_ne _ _ ne];exact n))
def Two(F σ:Sg)(a:Addr)(M:List (Str × Addr))(S:StoreT)(kp a2:Addr)(M2:List (Str × Addr))(S2:StoreT)(b:Array UInt8):Prop:=∃Fx,KpAt Fx σ kp a2 M2 S2 b∧StAt F Fx a M S
section
variable {kp a2:Addr}{M2:List (Str × Addr)}{S2:StoreT}
theorem Two.store(h:Two F σ a M S kp a2 M2 S2 b):StAt F σ a M S:=x1_2 h λ_ k s=>s.up k.subF
theorem Two.keeper(h:Two F σ a M S kp a2 M2 S2 b):∃Fx,KpAt Fx σ kp a2 M2 S2 b:=x1_2 h λFx k _=>⟨Fx,k⟩
theorem Two.up(h:Two F σ a M S kp a2 M2 S2 b)(k:σ.Sub τ):Two F τ a M S kp a2 M2 S2 b:=x1_2 h λFx q s=>(y12 Fx (q.up k) s)
theorem Two.set{x:Addr}{o:MO}(h:Two F σ a M S kp a2 M2 S2 b)(e:F x=some o)(o':MO):Two (F.set x o') (σ.set x o') a M S kp a2 M2 S2 b:=x1_2 h λ_ q s=>(y12 _ (q.set (s.subF _ _ e) o') (s.set e o'))
theorem Two.open(h:Two F σ a M S kp a2 M2 S2 b):∃F',StAt F' σ a M S∧∀τ M' S',StAt F' τ a M' S'→Two F τ a M' S' kp a2 M2 S2 b:=by
 obtain⟨Fx,⟨G,hs,s,e1,n⟩,hst⟩:=h
 have h1:=(hst.new n (kpMO a2 b)).up (τ:=G) λy o q=>by
  unfold Sg.set at q
  split at q
  ·rename_i r;rw[r,e1];exact q
  ·exact s _ _ q
 obtain⟨F',k1,k2⟩:=hs.swap h1
 refine(y12 F' k1 (λτ M' S' k3=>?_))
 obtain⟨F2,k4,k5⟩:=k3.swap k2
 have fk:F kp=none:=by
  have:=hst.subF
  exact this.none n
 refine(y12 (F2.del kp) (y14 F2 k4 (Sg.del_sub F2 kp) (k5.subF _ _ (Sg.set_same _ _ _)) (by unfold Sg.del;rw[if_pos rfl])) ?_)
 exact k5.del fk
end
def qBW(r:D):Prop:=Pln 4 r
theorem pln_ints(us:List Int):Pln (n+1) (.tup (us.map .int)):=.tup λd m=>by obtain⟨x,_,rfl⟩:=List.mem_map.mp m;exact .int _ _
theorem qIY(us:List Int):Pln (n+1) (.lst (us.map .int)):=.lst λd m=>by obtain⟨x,_,rfl⟩:=List.mem_map.mp m;exact .int _ _
theorem qH7(us:List Str):Pln (n+1) (.tup (us.map .str)):=.tup λd m=>by obtain⟨x,_,rfl⟩:=List.mem_map.mp m;exact .str _ _
theorem qCH{a b:D}(h:Pln n a)(k:Pln n b):Pln (n+1) (.tup [a,b]):=.tup λd m=>by
 rcases List.mem_cons.mp m with rfl|m
 ·exact h
 ·rw[List.mem_singleton.mp m];exact k
theorem qD8{α β:Type}{a r:α}{b s:β}{P:α→Prop}(e:some (a,b)=some (r,s))(p:P a):P r:=by
 have e:a=r:=congrArg Prod.fst (Option.some.inj e)
 exact e▸p
theorem qJG{S':StoreT}{d:Deed}{r:D}(e:S.apply d=some (r,S')):qBW r:=by
 cases d with
 |create x v=>exact qD8 (P:=qBW) (iteN (iteN (iteN e).2).2).2 (.int _ _)
 |delete x=>
  obtain⟨b,_,e⟩:=matN e
  exact qD8 (P:=qBW) (iteN e).2 (.int _ _)
 |rename old new=>
  obtain⟨b,_,e⟩:=matN e
  have e:=(iteN (iteN e).2).2
  split at e
  ·exact qD8 (P:=qBW) (iteN (iteN e).2).2 (.lst λd m=>by rw[List.mem_singleton.mp m];exact qCH (.str _ _) (.str _ _))
  ·obtain⟨ps,_,e⟩:=matN e
   exact qD8 (P:=qBW) e (.lst λd m=>by obtain⟨x,_,rfl⟩:=List.mem_map.mp m;exact qCH (.str _ _) (.str _ _))
 |append x fs i o=>
  obtain⟨b,_,e⟩:=matN e
  obtain⟨ns,_,e⟩:=matN (iteN e).2
  exact qD8 (P:=qBW) e (qCH (.int _ _) (.int _ _))
 |flags x u fs=>
  obtain⟨b,_,e⟩:=matN e
  obtain⟨p,_,e⟩:=matN (iteN e).2
  exact qD8 (P:=qBW) e (.bool _ _)
 |store x us way fs u=>
  obtain⟨b,_,e⟩:=matN e
  obtain⟨ns,_,e⟩:=matN (iteN e).2
  obtain⟨p,_,e⟩:=matN e
  exact qD8 (P:=qBW) e (qCH (qIY _) (.lst λd m=>by obtain⟨x,_,rfl⟩:=List.mem_map.mp m;exact .int _ _))
 |expunge x us=>
  obtain⟨b,_,e⟩:=matN e
  exact qD8 (P:=qBW) (iteN e).2 (pln_ints _)
 |copy mv x us g=>
  obtain⟨b,_,e⟩:=matN e
  obtain⟨t,_,e⟩:=matN e
  refine qD8 (P:=qBW) (iteN (iteN (iteN e).2).2).2 (.tup λd m=>?_)
  rcases List.mem_cons.mp m with rfl|m
  ·exact .int _ _
  rcases List.mem_cons.mp m with rfl|m
  ·exact .tup λd m=>by obtain⟨x,_,rfl⟩:=List.mem_map.mp m;exact .int _ _
  rw[List.mem_singleton.mp m]
  exact .tup λd m=>by obtain⟨x,_,rfl⟩:=List.mem_map.mp m;exact .int _ _
 |sub x=>
  have e:=(iteN e).2
  split at e <;> exact qD8 (P:=qBW) e (.bool _ _)
 |unsub x=>exact qD8 (P:=qBW) (iteN e).2 (.bool _ _)
 |forget x m=>
  obtain⟨b,_,e⟩:=matN e
  exact qD8 (P:=qBW) e (.int _ _)
 |bad x vs=>cases e
theorem box_pln(b:BoxT):Pln 4 b.told:=by
 refine .tup λd m=>?_
 rcases List.mem_cons.mp m with rfl|m
 ·exact .str _ _
 rcases List.mem_cons.mp m with rfl|m
 ·exact .int _ _
 rcases List.mem_cons.mp m with rfl|m
 ·exact .int _ _
 rcases List.mem_cons.mp m with rfl|m
 ·exact .int _ _
 rcases List.mem_cons.mp m with rfl|m
 ·exact .int _ _
 rcases List.mem_cons.mp m with rfl|m
 ·refine .tup λd m=>?_
  obtain⟨x,_,rfl⟩:=List.mem_map.mp m
  refine .tup λd m=>?_
  simp only[List.mem_cons,List.not_mem_nil,or_false]at m
  rcases m with rfl|rfl|rfl|rfl|rfl
  ·exact .int _ _
  ·exact .bytes _ _
  ·exact qH7 _
  ·exact .int _ _
  ·exact .int _ _
 rw[List.mem_singleton.mp m]
 refine .tup λd m=>?_
 obtain⟨x,_,rfl⟩:=List.mem_map.mp m
 exact qCH (.int _ _) (.int _ _)
theorem qDB(S:StoreT):Pln 6 S.told:=by
 refine .tup λd m=>?_
 rcases List.mem_cons.mp m with rfl|m
 ·exact .int _ _
 rcases List.mem_cons.mp m with rfl|m
 ·exact qH7 _
 rw[List.mem_singleton.mp m]
 refine .tup λd m=>?_
 obtain⟨x,_,rfl⟩:=List.mem_map.mp m
 unfold StoreT.boxTold
 split
 ·exact box_pln _
 ·exact .none _
noncomputable def tailsL:List (Array UInt8):=[#[],#[114],byteArr [3,1,2,3]]
theorem qFN{t:Array UInt8}(h:t∈tailsL):Stop S t.toList∧t.size≤4:=by
 have e:(byteArr [3,1,2,3]).toList= [3,1,2,3]:=by decide+kernel
 simp only[tailsL,List.mem_cons,List.not_mem_nil,or_false]at h
 rcases h with rfl|rfl|rfl
 ·exact⟨.inl rfl,by decide⟩
 ·exact⟨.inr (.inl (y23 114 [] (by rw[qAW (by decide)];rfl) (by decide) (by decide))),by decide⟩
 ·exact⟨.inr (.inl (y23 3 [1,2,3] (by rw[e,qAW (by decide)];rfl) (by decide) (by decide))),by rw[byteArr_size];decide⟩
def LogL(S:StoreT)(ds:List Deed)(op:Bool)(lg:List UInt8):Prop:=(op=true∧lg=qA9 ds)∨(op=false∧∃(d:Deed) (r:List UInt8),lg=qA9 ds++(qAF d.val++r)∧d.Ok∧S.apply d=none)
theorem LogL.stop{ds:List Deed}{op:Bool}{lg:List UInt8}{t:Array UInt8}(h:LogL S ds op lg)(ht:t∈tailsL):∃rest,lg++t.toList=qA9 ds++rest∧Stop S rest:=by
 rcases h with⟨_,rfl⟩| ⟨_,d,r,rfl,o,e⟩
 ·exact(y12 _ rfl ((qFN ht).1))
 ·exact(y12 (qAF d.val++(r++t.toList)) (by simp only[List.append_assoc]) (.inr (.inr (y23 d _ rfl o e))))
theorem d_any'{bx:Addr}{l:List D}(hs:StAt F σ a M S)(hF:F bx=some (.list l))(hl:BoxL n l)(hn:n≤70000)(nv:2≤S.nextv∧S.nextv≤1000)
  (h:∀(d:Deed) l',d.Ok→d.near S→BoxL (n+21) l'→Q d.val.toD (σ.set bx (.list l'))):FN w os (lv+5) 730 [.obj bx,.obj a] σ Q X:=by
 have e:=Sg.set_self (hs.subF _ _ hF)
 have k:=d_any (w:=w) (os:=os) (lv:=lv) (σ:=σ) (Q:=Q) (X:=X) (bx:=bx) (l:=l) (by rw[e];exact hs) hF hl hn nv h
 rwa[e]at k
theorem d_deed'{bx:Addr}{l:List D}(hs:StAt F σ a M S)(hF:F bx=some (.list l))(hl:BoxL n l)(hn:n≤70000)(nv:2≤S.nextv∧S.nextv≤1000)
  (h:∀(d:Deed) l',d.Ok→d.near S→BoxL (n+20) l'→Q d.val.toD (σ.set bx (.list l'))):FN w os (lv+4) 723 [.obj bx,.obj a] σ Q X:=by
 have e:=Sg.set_self (hs.subF _ _ hF)
 have k:=d_deed (w:=w) (os:=os) (lv:=lv) (σ:=σ) (Q:=Q) (X:=X) (bx:=bx) (l:=l) (by rw[e];exact hs) hF hl (by omega) nv h
 rwa[e]at k
structure LawAt(σ:Sg)(bx a:Addr)(n:Nat)(F:Sg)(M:List (Str × Addr))(S:StoreT)(l:List D)(t:List (Nat × Nat × Addr)):Prop where
 st:StAt F σ a M S
 bl:F bx=some (.list l)
 ok:BoxL n l
 tb:F 739=some (.tab t)
structure LI(bx a:Addr)(n c:Nat)(ρ:Ro)(τ:Sg)(S:StoreT)(ds:List Deed)(op:Bool)(lg kp:Array UInt8):Prop where
 la:∃F M l t,LawAt τ bx a n F M S l t
 hb:ρ.lookup ("box":Str)=some (.obj bx)
 hs:ρ.lookup ("store":Str)=some (.obj a)
 hl:ρ.lookup ("log":Str)=some (.bytes lg)
 hk:ρ.lookup ("kept":Str)=some (.bytes kp)
 ho:ρ.lookup ("is_open":Str)=some (.bool op)
 run:Runs store0 ds S
 oks:∀d∈ds,d.Ok
 kpt:kp.toList=qA9 ds
 log:LogL S ds op lg.toList
 cnt:ds.length≤c
 siz:lg.size≤2010 * c
noncomputable def cntT(k:Nat):Nat:=k+(if 2 < k then 1 else 0)
theorem bxB{l g:Nat}(h:n≤12)(a:l≤4 * n)(b:g≤48 * n):l≤1000000∧g≤1000000:=⟨Nat.le_trans a (Nat.le_trans (Nat.mul_le_mul_left 4 h) (by decide)),Nat.le_trans b (Nat.le_trans (Nat.mul_le_mul_left 48 h) (by decide))⟩
theorem cntT_s:∀k,k≤5→cntT k+(if k=2 then 2 else 1)=cntT (k+1):=by decide
theorem qGr(h:k≤6):cntT k≤7:=(by decide:∀k,k≤6→cntT k≤7) k h
theorem cntT_j{j:Nat}(hk:k≤5)(hj:j < if k=2 then 2 else 1):cntT k+j≤6:=
 Nat.le_of_lt_succ (Nat.lt_of_lt_of_le (Nat.add_lt_add_left hj _) (Nat.le_trans (Nat.le_of_eq (cntT_s k hk)) (qGr (Nat.succ_le_succ hk))))
theorem qHn{S':StoreT}{d:Deed}{r:D}(e:S.apply d=some (r,S')):d.near S':=by
 cases d with
 |create x v=>
  obtain rfl:=qCO (iteN (iteN (iteN e).2).2).2
  show v≤v+1+3
  exact Int.add_assoc v 1 3▸Int.le_add_of_nonneg_right (a:=v) (b:=4) (by decide)
 |_=>trivial
section
theorem f_law{ns:List Int}{t0:List (Nat × Nat × Addr)}(hz:ns.length≤63)(hσ:σ 739=some (.tab t0))(h:∀τ t,τ 739=some (.tab t)→Q (.bool true) τ):FNc w os (lv+30) 744 [.lst (ns.map .int)] σ Q X:=by
 refine qBx ["script"] rfl (len1 λ_=>rfl) λA fr L=>?_
 walk_at"d"
 refine qAP (lv:=1) rfl (by walk_at"lv") (FN_c (qIs (lv:=0) hz λbx l0 nbx hl0=>?_))
 walk_at"d"
 refine qAP (lv:=5) rfl (by walk_at"lv") (FN_c (qDe (lv:=0) λa τ ab na hst=>?_))
 have ne9:(739:Addr)≠bx:=λq=>by rw[←q,hσ]at nbx;cases nbx
 have la0:LawAt τ bx a 0 (σ.set bx (.list l0)) [("INBOX",ab)] store0 l0 t0:=⟨hst,Sg.set_same _ _ _,hl0,by rw[Sg.set_ne _ _ ne9];exact hσ⟩
 walk_at"d"
 refine qGz (J:=λd τ1=>∃(i:Int) (t u v:Tok) (l1:List D),0≤i∧i < 6∧d= .raw (rngO 0 (1+i) t u v)∧BoxL 1 l1∧τ1=τ.set bx (.list l1)) rfl (WE.lift ?_) ?_
 ·walk_at"e"
  refine qA1 (lv:=1) rfl (by walk_at"lv") (qIt (lv:=0) (hst.subF _ _ la0.bl) hl0 (by decide) (by decide) (by decide) λi l1 i0 i1 hl1=>?_)
  walk_at"e"
  exact qBE λt u v=>(y55 i t u v l1 i0 i1 rfl hl1 rfl)
 rintro d τ1 ⟨i,t,u,v,l1,i0,i1,rfl,hl1,rfl⟩
 have hil:(qCJ 0 (1+i)).length=(1+i).toNat:=qBX _
 have him:(1+i).toNat≤6:=Int.toNat_le.mpr (by omega)
 refine(.mk _ (λ_=>True) (qB4 rfl (by decide) (by omega)) (λk ρ τ=>∃S ds op lg kp,LI bx a (1+21 * k) (cntT k) ρ τ S ds op lg kp)
  (y51 store0 [] true (#[]) (#[]) ⟨(y41 _ _ l1 t0 ⟨hst.set la0.bl _,Sg.set_same _ _ _,hl1,by rw[Sg.set_ne _ _ ne9];exact la0.tb⟩),rfl,rfl,rfl,rfl,rfl,.nil _,λ_ h=>absurd h List.not_mem_nil,rfl,.inl ⟨rfl,rfl⟩,Nat.le_refl _,Nat.le_refl _⟩) (λ_ _ _ _=>trivial) ?_ ?_)
 ·rintro k ρ1 τ1 d hd ⟨S,ds,op,lg,kp,I⟩
  have hk:k≤5:=Nat.le_of_lt_succ (Nat.lt_of_lt_of_le (qCR hd) him)
  obtain rfl:=qDF hd
  clear hd
  have hc:=qGr (Nat.le_succ_of_le hk)
  have inv:=I.run.inv inv0 (by have:=I.cnt;omega)
  have inv:=inv.nv
  have hcn:=I.cnt
  obtain⟨⟨F,M,l,t,la⟩,hb,hs,hl,hkp,ho,hrun,hoks,hkpt,hlog,hcnt,hsiz⟩:=I
  walk_at"d"
  refine qAP (lv:=5) rfl (by walk_at"lv") (FN_c (d_any' (lv:=0) la.st la.bl la.ok (by omega) ⟨inv.1,by omega⟩ λd l2 o nr hl2=>?_))
  have hfl:=qDb o
  have la2:LawAt (τ1.set bx (.list l2)) bx a (1+21 * (k+1)) (F.set bx (.list l2)) M S l2 t:=⟨la.st.set la.bl _,Sg.set_same _ _ _,hl2.mono (by omega),by rw[Sg.set_ne _ _ ne9];exact la.tb⟩
  generalize τ1.set bx (.list l2)=τ2 at la2 ⊢
  walk_at"d"
  refine qAP (lv:=0+2+5) rfl (by walk_at"lv") (qF3 (lv:=0) d.isRow o.dep (by decide) (by omega) ?_)
  walk_at"d"
  refine qGz (J:=λe τ3=>∃(t u v:Tok),e= .raw (rngO 0 (if k=2 then 2 else 1) t u v)∧τ3=τ2) rfl (WE.lift ?_) ?_
  ·walk_at"e"
   by_cases q:k=2
   ·rw[if_pos q]
    subst q
    walk_at"e"
    exact qBE λt u v=>(y32 t u v rfl rfl)
   ·rw[if_neg q,show((k:Int)==2)=false by rw[beq_eq_false_iff_ne];omega]
    walk_at"e"
    exact qBE λt u v=>(y32 t u v rfl rfl)
  rintro e τ3 ⟨t',u',v',rfl,rfl⟩
  have hml:(qCJ 0 (if k=2 then 2 else 1)).length=(if k=2 then 2 else 1):=by split <;> rfl
  refine(.mk _ (λ_=>True) (qB4 rfl (by decide) (by split <;> omega)) (λj ρ τ=>∃S ds op lg kp,LI bx a (1+21 * (k+1)) (cntT k+j) ρ τ S ds op lg kp∧ρ.lookup ("row":Str)=some d.val.toD∧ρ.lookup ("frame":Str)=some (.bytes (qAF d.val).toArray)∧(op=true→d.near S))
   (y54 S ds op lg kp ⟨(y41 _ _ _ _ la2),by walk_at"nm",by walk_at"nm",by walk_at"nm",by walk_at"nm",by walk_at"nm",hrun,hoks,hkpt,hlog,hcnt,hsiz⟩ (by walk_at"nm") (by walk_at"nm") (λ_=>nr)) (λ_ _ _ _=>trivial) ?_ ?_)
  ·clear la2 la hrun hoks hkpt hlog hcnt hsiz hb hs hl hkp ho nr hcn inv hl2
   rintro j ρ2 τ4 e he ⟨S,ds,op,lg,kp,I,hrow,hfrm,hnear⟩
   have hj:j < if k=2 then 2 else 1:=hml▸(List.getElem?_eq_some_iff.mp he).1
   have hc2:=cntT_j hk hj
   have hcn:=I.cnt
   have inv:=I.run.inv inv0 (by omega)
   obtain⟨⟨F,M,l,t,la⟩,hb,hs,hl,hkp,ho,hrun,hoks,hkpt,hlog,hcnt,hsiz⟩:=I
   obtain rfl:=qDF he
   clear he
   have hfs:(qAF d.val).toArray.size=(qAF d.val).length:=List.size_toArray
   walk_at"d"
   refine qBJ (by omega) ?_
   walk_at"c1"
   walk_at"c1"
   walk_at"c1"
   walk_at"c1"
   walk_at"c1"
   cases op
   ·walk_at"d"
    refine(y54 S ds false (lg++(qAF d.val).toArray) kp ⟨(y41 F M l t la),by walk_at"nm",by walk_at"nm",by walk_at"nm",by walk_at"nm",by walk_at"nm",hrun,hoks,hkpt,?_,by omega,by rw[Array.size_append,hfs];omega⟩ (by walk_at"nm") (by walk_at"nm") nofun)
    rcases hlog with⟨e,_⟩| ⟨_,d0,r,e,o0,e0⟩
    ·cases e
    ·exact .inr ⟨rfl,d0,r++qAF d.val,by rw[Array.toList_append,e];simp only[List.append_assoc],o0,e0⟩
   ·have hnear:=hnear rfl
    have hlg:lg.toList=qA9 ds:=by
     rcases hlog with⟨_,e⟩| ⟨e,_⟩
     ·exact e
     ·cases e
    walk_at"d"
    refine qG8 (cl:=[("store",L+1)]) rfl rfl (la.st.subF _ _ la.tb) λpm cc ctv l'=>?_
    have la3:LawAt (τ4.set 739 (.tab l')) bx a (1+21 * (k+1)) (F.set 739 (.tab l')) M S l l':=⟨la.st.set la.tb _,by rw[Sg.set_ne _ _ ne9.symm];exact la.bl,la.ok,Sg.set_same _ _ _⟩
    generalize τ4.set 739 (.tab l')=τ5 at la3 ⊢
    walk_at"d"
    refine OC_p (lv:=14) (F:=λ_ v=>v= .ref 737) rfl (by walk_at"lv") (λ_ _ dv=>dv.on λ_=>rfl) (qHF (x:="store") rfl (by walk_at"nm") rfl) (qFs (lv:=13) rfl ?_)
    refine qHV (lv:=12) (x:="one") (k:="store") (λ_=>rfl) (y05 rfl rfl rfl rfl rfl) (by decide+kernel) (by decide) (by decide) λA' fr' L' a'=>?_
    walk_at"e"
    have hkz:kp.size≤lg.size:=by rw[←Array.length_toList,←Array.length_toList,hkpt,hlg];exact Nat.le_refl _
    refine qA1 (lv:=12) rfl (Nat.le_refl _) (qDl (lv:=0) la3.st inv (by omega) o.ok (λr S' e τ6 M' hst'=>?_) λe=>⟨rfl,?_⟩)
    ·walk_at"d"
     refine qBK (k:=0) rfl rfl (by decide) ?_
     walk_at"d"
     refine qBJ (by omega) ?_
     walk_at"d"
     refine(y54 S' (ds++ [d]) true (lg++(qAF d.val).toArray) (kp++(qAF d.val).toArray) ⟨(y41 _ M' l l' ⟨hst',la3.bl,la3.ok,la3.tb⟩),by walk_at"nm",by walk_at"nm",by walk_at"nm",by walk_at"nm",by walk_at"nm",hrun.snoc o.ok hnear e,λx m=>?_,?_,.inl ⟨rfl,?_⟩,?_,by rw[Array.size_append,hfs];omega⟩ (by walk_at"nm") (by walk_at"nm") (λ_=>qHn e))
     ·rcases List.mem_append.mp m with m|m
      ·exact hoks x m
      ·rw[List.mem_singleton.mp m];exact o
     ·rw[Array.toList_append,hkpt,qBr]
     ·rw[Array.toList_append,hlg,qBr]
     ·rw[List.length_append,List.length_singleton];omega
    ·walk_at"d"
     refine qBK (k:=0) rfl rfl (by decide) ?_
     walk_at"d"
     exact(y54 S ds false (lg++(qAF d.val).toArray) kp ⟨(y41 _ M l l' la3),by walk_at"nm",by walk_at"nm",by walk_at"nm",by walk_at"nm",by walk_at"nm",hrun,hoks,hkpt,.inr ⟨rfl,d,[],by rw[Array.toList_append,hlg];simp,o,e⟩,by omega,by rw[Array.size_append,hfs];omega⟩ (by walk_at"nm") (by walk_at"nm") nofun)
  ·rintro ρ2 τ4 ⟨S,ds,op,lg,kp,I,_,_,_⟩
   rw[hml,cntT_s k hk]at I
   walk_at"d"
   exact(y51 S ds op lg kp I)
 ·rintro ρ1 τ1 ⟨S,ds,op,lg,kp,I⟩
  rw[hil]at I
  have hc:cntT (1+i).toNat≤7:=qGr him
  have hn:1+21 * (1+i).toNat≤200:=Nat.le_trans (Nat.add_le_add_left (Nat.mul_le_mul_left 21 him) 1) (by decide)
  generalize cntT (1+i).toNat=cn at hc I
  generalize 1+21 * (1+i).toNat=bn at hn I
  have hcn:=I.cnt
  have inv:=I.run.inv inv0 (by omega)
  obtain⟨⟨F,M,l,t,la⟩,hb,hs,hl,hkp,ho,hrun,hoks,hkpt,hlog,hcnt,hsiz⟩:=I
  walk_at"d"
  refine qAR ?_
  walk_at"d"
  refine qAR ?_
  walk_at"d"
  refine qFK (ns:=[3,1,2,3]) rfl (by decide) (by decide) ?_
  walk_at"d"
  refine qA1 (lv:=1) rfl (by walk_at"lv") (qIt (lv:=0) (la.st.subF _ _ la.bl) la.ok (by omega) (by decide) (by decide) λj l2 j0 j1 hl2=>?_)
  have la2:LawAt (τ1.set bx (.list l2)) bx a (bn+1) (F.set bx (.list l2)) M S l2 t:=⟨la.st.set la.bl _,Sg.set_same _ _ _,hl2,by rw[Sg.set_ne _ _ ne9];exact la.tb⟩
  generalize τ1.set bx (.list l2)=τ2 at la2 ⊢
  obtain⟨tl,htl,htm⟩:=qBM (l:=tailsL) j0 j1
  refine qE0 ?_
  refine qE4 (k:=j.toNat) (by omega) (show(tailsL.map D.bytes)[j.toNat]? =some (.bytes tl) by rw[List.getElem?_map,htl];rfl) (by omega) ?_
  obtain⟨rest,hrest,hstop⟩:=hlog.stop htm
  have htz:=(qFN (S:=S) htm).2
  refine qBJ (by omega) ?_
  walk_at"d"
  refine qAP (lv:=17) rfl (by walk_at"lv") (FN_c (qCz (lv:=0) λkp1 τ3 a2 M2 nkp hkp1=>?_))
  have k1:=hkp1.at
  unfold kpMO at k1
  walk_at"d"
  refine(.mk _ _ (qAQ (f:=668) k1) (qAJ rfl) ?_)
  walk_at"d"
  refine qAP (lv:=14) rfl (by walk_at"lv") (FN_c (qEx (lv:=0) (k:=0) hkp1 inv0 (by omega) hoks hrun hstop (by rw[Array.size_append];omega) (by rw[Array.toList_append];exact hrest) λτ4 M3 hkp2=>?_))
  have two:Two (F.set bx (.list l2)) τ4 a M S kp1 a2 M3 S (qA9 ds).toArray:=(y12 τ2 hkp2 la2.st)
  have k2:=hkp2.at
  unfold kpMO at k2
  obtain⟨ad,s1,_,_⟩:=two.store.cells
  have inb:=inv.nb
  have isb:=inv.sb
  have ibx:∀p∈S.boxes,p.2.letters.length≤1000000∧p.2.gone.length≤1000000:=λp hp=>bxB (by omega) (inv.bx p hp).ll (inv.bx p hp).gl
  have hkne:((qA9 ds).toArray.toList !=kp.toList)=false:=by rw[hkpt];simp
  walk_at"d"
  refine(.mk _ _ (qAQ (f:=682) k2) (qAJ rfl) ?_)
  refine qA1 (lv:=4) rfl (by walk_at"lv") (qBD (lv:=0) hkp2 inv (by omega) ?_)
  walk_at"d"
  refine(.mk _ _ (qAQ (f:=459) s1) (qAJ rfl) ?_)
  refine qA1 (lv:=3) rfl (by walk_at"lv") (qB1 (lv:=0) two.store (by omega) (by omega) ibx ?_)
  refine qIE (qDB S) (by decide) ?_
  walk_at"d"
  refine O_ney ?_
  rw[hkne]
  walk_at"d"
  refine qAP (lv:=17) rfl (by walk_at"lv") (FN_c (qCz (lv:=0) λko τ5 a3 M4 nko hko=>?_))
  have two5:=two.up hko.subF
  have k5:=hko.at
  obtain⟨Fx5,hk5⟩:=two5.keeper
  have k5':=hk5.at
  unfold kpMO at k5 k5'
  walk_at"d"
  refine(.mk _ _ (qAQ (f:=668) k5) (qAJ rfl) ?_)
  walk_at"d"
  have hdz:(qA9 ds).toArray.size≤1000000:=by
   have:(qA9 ds).toArray.size=kp.size:=by rw[List.size_toArray,←Array.length_toList (xs:=kp),hkpt]
   have:(qA9 ds).length≤lg.size:=by
    rcases hlog with⟨_,e⟩| ⟨_,d0,r,e,_⟩
    ·rw[←Array.length_toList,e];exact Nat.le_refl _
    ·rw[←Array.length_toList,e,List.length_append];omega
   rw[List.size_toArray];omega
  refine qAP (lv:=14) rfl (by walk_at"lv") (FN_c (qEx (lv:=0) (k:=0) (rest:=[]) hko inv0 (by omega) hoks hrun (.inl rfl) (by omega) (by simp) λτ6 M5 hko2=>?_))
  have two6:=two.up hko2.subF
  have k6:=hko2.at
  unfold kpMO at k6
  obtain⟨ad6,s6,_,_⟩:=two6.store.cells
  walk_at"d"
  refine(.mk _ _ (qAQ (f:=682) k6) (qAJ rfl) ?_)
  refine qA1 (lv:=4) rfl (by walk_at"lv") (qBD (lv:=0) hko2 inv (by omega) ?_)
  walk_at"d"
  refine(.mk _ _ (qAQ (f:=459) s6) (qAJ rfl) ?_)
  refine qA1 (lv:=3) rfl (by walk_at"lv") (qB1 (lv:=0) two6.store (by omega) (by omega) ibx ?_)
  refine qIE (qDB S) (by decide) ?_
  walk_at"d"
  refine O_ney ?_
  rw[hkne]
  walk_at"d"
  refine qAP (lv:=4) rfl (by walk_at"lv") (FN_c (d_deed' (lv:=0) two6.store (Sg.set_same _ _ _) hl2 (by omega) ⟨inv.nv.1,by have:=inv.nv.2;omega⟩ λd l3 o nr hl3=>?_))
  have two7:=two6.set (Sg.set_same _ _ _) (.list l3)
  have tb7:(((F.set bx (.list l2)).set bx (.list l3)):Sg) 739=some (.tab t):=by rw[Sg.set_ne _ _ ne9];exact la2.tb
  generalize τ6.set bx (.list l3)=τ7 at two7 ⊢
  generalize (F.set bx (.list l2)).set bx (.list l3)=F7 at two7 tb7
  clear two6 two5 two hko hko2 hkp1 hkp2 la la2
  walk_at"d"
  refine qG8 (cl:=[("store",L+1)]) rfl rfl (two7.store.subF _ _ tb7) λpm cc ctv l'=>?_
  have two8:=two7.set tb7 (.tab l')
  generalize τ7.set 739 (.tab l')=τ8 at two8 ⊢
  obtain⟨F',hst8,back⟩:=two8.open
  walk_at"d"
  refine OC.lift (OC_p (lv:=14) (F:=λ_ v=>v= .ref 737) rfl (by walk_at"lv") (λ_ _ dv=>dv.on λ_=>rfl) (qHF (x:="store") rfl (by walk_at"nm") rfl) (qFs (lv:=13) rfl ?_))
  refine qHV (lv:=12) (x:="one") (k:="store") (λ_=>rfl) (y05 rfl rfl rfl rfl rfl) (by decide+kernel) (by decide) (by decide) λA' fr' L' a'=>?_
  walk_at"e"
  refine qA1 (lv:=12) rfl (Nat.le_refl _) (qDl (lv:=0) hst8 inv (by omega) o.ok (λr S' e τ9 M' hst9=>?_) λe=>⟨rfl,?_⟩)
  ·have two9:=back _ _ _ hst9
   have inv9:=inv.step (by omega) o.ok nr e
   have hrp:=qJG e
   obtain⟨Fx9,hk9,hs9⟩:=two9
   have k9:=hk9.at
   unfold kpMO at k9
   walk_at"c1"
   walk_at"c1"
   refine WBc_Or ?_
   refine qDz ?_
   walk_at"d"
   refine qJq k9 rfl ?_
   walk_at"d"
   refine qAP (lv:=14) rfl (by walk_at"lv") (qFt (lv:=13) (qDi (lv:=0) hk9 inv (by omega) o hdz (λr2 S2 e2 τ10 M10 hk10=>?_) λe2=>by rw[e]at e2;cases e2))
   obtain⟨rfl,rfl⟩:r=r2∧S'=S2:=by rw[e]at e2;injection e2 with e2;injection e2 with a b;exact⟨a,b⟩
   have two10:Two _ τ10 a M' S' kp1 a2 M10 S' _:=(y12 Fx9 hk10 hs9)
   have k10:=hk10.at
   unfold kpMO at k10
   obtain⟨ad10,s10,_,_⟩:=two10.store.cells
   walk_at"d"
   refine qIE (qCH (.str _ _) hrp) (by decide) ?_
   walk_at"d"
   refine(.mk _ _ (qAQ (f:=682) k10) (qAJ rfl) ?_)
   refine qA1 (lv:=4) rfl (by walk_at"lv") (qBD (lv:=0) hk10 inv9 (by omega) ?_)
   walk_at"d"
   refine(.mk _ _ (qAQ (f:=459) s10) (qAJ rfl) ?_)
   refine qA1 (lv:=3) rfl (by walk_at"lv") (qB1 (lv:=0) two10.store (by have:=inv9.nb;omega) (by have:=inv9.sb;omega) (λp hp=>bxB (by omega) (inv9.bx p hp).ll (inv9.bx p hp).gl) ?_)
   refine qIE (qDB S') (by decide) ?_
   walk_at"f"
   refine qCs (qDy ?_)
   walk_at"d"
   refine qBK (k:=0) rfl rfl (by decide) ?_
   walk_at"d"
   have hfl:=qDb o
   have hfs:(qAF d.val).toArray.size=(qAF d.val).length:=List.size_toArray
   refine qAP (lv:=0+2+5) rfl (by walk_at"lv") (qF3 (lv:=0) d.isRow o.dep (by decide) (by omega) ?_)
   have hkz:kp.size≤1000000:=by rw[←Array.length_toList,hkpt];rw[List.size_toArray]at hdz;exact hdz
   refine qBJ (by omega) ?_
   refine O_eqy ?_
   rw[show(((qA9 ds).toArray++(qAF d.val).toArray).toList==(kp++(qAF d.val).toArray).toList)=true by rw[Array.toList_append,Array.toList_append,hkpt];simp]
   exact h _ l' (two10.store.subF _ _ (Sg.set_same _ _ _))
  ·obtain⟨Fx9,hk10,hs9⟩:=id two8
   have two10:=two8
   have k10:=hk10.at
   unfold kpMO at k10
   obtain⟨ad10,s10,_,_⟩:=two10.store.cells
   walk_at"c1"
   walk_at"c1"
   refine WBc_Or ?_
   refine qDz ?_
   walk_at"d"
   refine qJq k10 rfl ?_
   walk_at"d"
   refine qAP (lv:=14) rfl (by walk_at"lv") (qFt (lv:=13) (qDi (lv:=0) hk10 inv (by omega) o hdz (λr2 S2 e2 τ10 M10 hk10=>by rw[e]at e2;cases e2) λe2=>⟨rfl,?_⟩))
   walk_at"d"
   refine qIE (n:=1) (qCH (.str _ _) (.int _ _)) (by decide) ?_
   walk_at"d"
   refine(.mk _ _ (qAQ (f:=682) k10) (qAJ rfl) ?_)
   refine qA1 (lv:=4) rfl (by walk_at"lv") (qBD (lv:=0) hk10 inv (by omega) ?_)
   walk_at"d"
   refine(.mk _ _ (qAQ (f:=459) s10) (qAJ rfl) ?_)
   refine qA1 (lv:=3) rfl (by walk_at"lv") (qB1 (lv:=0) two10.store (by have:=inv.nb;omega) (by have:=inv.sb;omega) (λp hp=>bxB (by omega) (inv.bx p hp).ll (inv.bx p hp).gl) ?_)
   refine qIE (qDB S) (by decide) ?_
   walk_at"f"
   refine qCs (qDy ?_)
   walk_at"d"
   refine qBK (k:=0) rfl rfl (by decide) ?_
   walk_at"d"
   have hkz:kp.size≤1000000:=by rw[←Array.length_toList,hkpt];rw[List.size_toArray]at hdz;exact hdz
   refine qBJ (by show kp.size+0≤_;omega) ?_
   refine O_eqy ?_
   rw[show((qA9 ds).toArray.toList==(kp++([]:List UInt8).toArray).toList)=true by rw[Array.toList_append,hkpt];simp]
   exact h _ l' (two10.store.subF _ _ (Sg.set_same _ _ _))
end
theorem Wd.hide(x:Wd w h)(e:h.get? 739=some ⟨.none,none,.fields #[],#[]⟩):Wd w (hideAll h [739]):=by
 have hg:∀{b o},h.get? b=some o→b≠739→(hideAll h [739]).get? b=some o:=λq n=>hideAll_get [739] q (by simpa using n)
 have hns:∀{b m},h.Ns b m→(hideAll h [739]).Ns b m:=λ{b m} q=>by
  obtain⟨o,es,ep,q1,q2,r⟩:=q
  refine⟨o,es,ep,hg q1 λz=>?_,q2,r⟩
  rw[z,e]at q1;injection q1 with q1;rw[←q1]at q2;cases q2
 refine⟨λa o q=>hg (x.K a o q) λz=>?_,λp hp=>?_,?_,?_,?_⟩
 ·rw[z,show List.lookup 739 (KF w.params)=none from rfl]at q;cases q
 ·obtain⟨c,o,vs,t,h1,h2,h3,h4⟩:=x.code p hp
  refine⟨c,o,vs,t,h1,hg h2 λz=>?_,h3,h4⟩
  rw[z,e]at h2;injection h2 with h2;rw[←h2]at h3;injection h3 with h3;rw[←h3]at h4;cases h4
 ·obtain⟨mg,mb,a,b,r⟩:=x.ns
  exact⟨mg,mb,hns a,hns b,r⟩
 ·obtain⟨mc,a,r⟩:=x.lim
  exact⟨mc,hns a,r⟩
 ·obtain⟨mg,bm,ob,a,b,c,d,r1,r2,r3⟩:=x.bmain
  refine⟨mg,bm,ob,hns a,b,c,hg d λz=>?_,r1,r2,r3⟩
  rw[z,e]at d;injection d with d;rw[←d]at r3;cases r3
theorem law_walk(w:World)(s:Shared)(l:Addr)(vs:List Value)(ns:List Int)(wd:Wd w s.heap)(hl:s.heap.IsList l vs.toArray)(hi:IntsAre vs ns)(hz:ns.length≤63)(hg:s.gens= #[])(h9:s.heap.get? 739=some ⟨.none,none,.fields #[],#[]⟩):
  wpC (model pw w) callerA (call (.ref 744) [.ref l]) (λv s'=>v= .bool true∧OldK s.heap s'.heap∧s'.os=s.os∧s'.gens= #[]) (λ_ _=>False) s:=by
 let σ:Sg:=Sg.set (λ_=>none) 739 (.tab [])
 have sa:∀{a o},σ a=some o→a=739∧o= .tab []:=λ{a o} q=>by
  have q:Sg.set (λ_=>none) 739 (.tab []) a=some o:=q
  unfold Sg.set at q
  split at q
  ·rename_i z;injection q with q;exact⟨z,q.symm⟩
  ·cases q
 have F:=f_law (w:=w) (os:=s.os) (lv:=0) (σ:=σ) (Q:=λd τ=>d= .bool true∧∃t,τ 739=some (.tab t)) (X:=λ_ _=>False) hz (Sg.set_same _ _ _) λτ t e=>⟨rfl,t,e⟩
 have rel:Rel w (hideAll s.heap [739]) [] σ s.heap:=by
  refine⟨λb o q=>of_hideAll [739] q,(by intro p hp;cases hp),List.nodup_nil,λa o q=>?_,λa o q b hb=>?_,λa o a' o' q q' n=>?_⟩
  ·obtain⟨rfl,rfl⟩:=sa q
   exact⟨h9,by intro x hx;cases hx⟩
  ·obtain⟨rfl,rfl⟩:=sa q
   obtain rfl:b=739:=by simpa [MO.at] using hb
   exact⟨hideAll_none [739] (by simp),by simp⟩
  ·exact absurd ((sa q).1.trans (sa q').1.symm) n
 obtain⟨ol,hl1,hl2,n,hl3⟩:=hl
 have hl9:l≠739:=λz=>by rw[z,h9]at hl1;injection hl1 with hl1;rw[←hl1]at hl2;cases hl2
 have hlh:(hideAll s.heap [739]).get? l=some ol:=hideAll_get [739] hl1 (by simpa using hl9)
 refine qEZ (qBZ (F callerA [] _ [] s _ _ ⟨rfl,rfl,by decide+kernel,by decide+kernel,rfl⟩ (by intro e he;cases he) rel (wd.hide h9) hg rfl rfl (.cons (.lst (vs:=vs) ⟨ol,hlh,hl2,n,hl3⟩ (qEq hi)) .nil)) λr s' p=>?_)
 cases r with
 |error ev=>exact CPx.el p λ_ _ _ _ _ _ _ _ _ _ _ _ x=>x
 |ok fl=>cases fl with
  |ret v=>
   refine CPr.el p λg' d σ' l1 r1 hg1 ho1 dv q=>?_
   obtain⟨q,t,ht⟩:=q
   subst q
   cases dv
   obtain⟨ht,_⟩:=r1.rep 739 _ ht
   refine⟨rfl,⟨λb o e=>?_,λb o e=>?_⟩,ho1,hg1⟩
   ·by_cases z:b=739
    ·subst z
     rw[h9]at e;injection e with e;subst e
     refine .inr (.inl ⟨⟨743,_,_,wd.K 743 _ rfl,rfl,rfl,rfl⟩,rfl,#[],(tabL t).toArray,rfl,?_⟩)
     rw[ht];unfold qIO;simp
    ·exact .inl (r1.keep _ _ (l1 _ _ (hideAll_get [739] e (by simpa using z))))
   ·by_cases z:b=739
    ·subst z;exact⟨_,ht⟩
    ·exact⟨o,r1.keep _ _ (l1 _ _ (hideAll_get [739] e (by simpa using z)))⟩
  |next=>exact p.elim
  |brk=>exact p.elim
  |cont=>exact p.elim
theorem law_row(k1:rw'.row.wellSaid=true):rw'.row.Holds:=head1 (λw s l vs ns wd hl hi hz _ hg h9=>law_walk w s l vs ns wd hl hi hz hg h9) k1
end Mine.Internal
set_option maxRecDepth 100000 in
set_option maxHeartbeats 8000000 in
theorem PySem.Challenge.cw_nz0331_01_holds : PySem.Challenge.rw_nz0331_01.Holds := by
 exact holds_law Mine.Internal.said Mine.Internal.law_row
