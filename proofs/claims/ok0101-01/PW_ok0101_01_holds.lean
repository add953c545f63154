import PyProof.Rows.All
import Wide.All
import OpenK.AllK
import Wide.FinOn
import Lean
import PySem.Challenge.RW_ok0101_01
set_option Elab.async false
set_option maxRecDepth 100000
open PySem PySem.W PyProof.Rows
section
open PySem.Calls
set_option backward.match.sparseCases false
set_option tactic.hygienic false
set_option genInjectivity false
set_option genSizeOf false
namespace Mine
theorem x0a2 {p0 p1 G:Prop} (h:p0∧p1) (k:p0→p1→G):G:=k h.1 h.2
theorem x1a1.{u0} {α0:Sort u0} {p0:α0→Prop} {G:Prop} (h:∃ x0,p0 x0) (k:∀ x0,p0 x0→G):G:=h.elim fun x0 h=>k x0 h
theorem x0a3 {p0 p1 p2 G:Prop} (h:p0∧p1∧p2) (k:p0→p1→p2→G):G:=k h.1 h.2.1 h.2.2
theorem x1a2.{u0} {α0:Sort u0} {p0 p1:α0→Prop} {G:Prop} (h:∃ x0,p0 x0∧p1 x0) (k:∀ x0,p0 x0→p1 x0→G):G:=h.elim fun x0 h=>k x0 h.1 h.2
theorem x2a1.{u0,u1} {α0:Sort u0} {α1:Sort u1} {p0:α0→α1→Prop} {G:Prop} (h:∃ x0 x1,p0 x0 x1) (k:∀ x0 x1,p0 x0 x1→G):G:=h.elim fun x0 h=>h.elim fun x1 h=>k x0 x1 h
theorem x0a4 {p0 p1 p2 p3 G:Prop} (h:p0∧p1∧p2∧p3) (k:p0→p1→p2→p3→G):G:=k h.1 h.2.1 h.2.2.1 h.2.2.2
theorem x1a3.{u0} {α0:Sort u0} {p0 p1 p2:α0→Prop} {G:Prop} (h:∃ x0,p0 x0∧p1 x0∧p2 x0) (k:∀ x0,p0 x0→p1 x0→p2 x0→G):G:=h.elim fun x0 h=>k x0 h.1 h.2.1 h.2.2
theorem x2a2.{u0,u1} {α0:Sort u0} {α1:Sort u1} {p0 p1:α0→α1→Prop} {G:Prop} (h:∃ x0 x1,p0 x0 x1∧p1 x0 x1) (k:∀ x0 x1,p0 x0 x1→p1 x0 x1→G):G:=h.elim fun x0 h=>h.elim fun x1 h=>k x0 x1 h.1 h.2
theorem x3a1.{u0,u1,u2} {α0:Sort u0} {α1:Sort u1} {α2:Sort u2} {p0:α0→α1→α2→Prop} {G:Prop} (h:∃ x0 x1 x2,p0 x0 x1 x2) (k:∀ x0 x1 x2,p0 x0 x1 x2→G):G:=h.elim fun x0 h=>h.elim fun x1 h=>h.elim fun x2 h=>k x0 x1 x2 h
theorem x1a4.{u0} {α0:Sort u0} {p0 p1 p2 p3:α0→Prop} {G:Prop} (h:∃ x0,p0 x0∧p1 x0∧p2 x0∧p3 x0) (k:∀ x0,p0 x0→p1 x0→p2 x0→p3 x0→G):G:=h.elim fun x0 h=>k x0 h.1 h.2.1 h.2.2.1 h.2.2.2
theorem x2a3.{u0,u1} {α0:Sort u0} {α1:Sort u1} {p0 p1 p2:α0→α1→Prop} {G:Prop} (h:∃ x0 x1,p0 x0 x1∧p1 x0 x1∧p2 x0 x1) (k:∀ x0 x1,p0 x0 x1→p1 x0 x1→p2 x0 x1→G):G:=h.elim fun x0 h=>h.elim fun x1 h=>k x0 x1 h.1 h.2.1 h.2.2
theorem x3a2.{u0,u1,u2} {α0:Sort u0} {α1:Sort u1} {α2:Sort u2} {p0 p1:α0→α1→α2→Prop} {G:Prop} (h:∃ x0 x1 x2,p0 x0 x1 x2∧p1 x0 x1 x2) (k:∀ x0 x1 x2,p0 x0 x1 x2→p1 x0 x1 x2→G):G:=h.elim fun x0 h=>h.elim fun x1 h=>h.elim fun x2 h=>k x0 x1 x2 h.1 h.2
theorem x0a6 {p0 p1 p2 p3 p4 p5 G:Prop} (h:p0∧p1∧p2∧p3∧p4∧p5) (k:p0→p1→p2→p3→p4→p5→G):G:=k h.1 h.2.1 h.2.2.1 h.2.2.2.1 h.2.2.2.2.1 h.2.2.2.2.2
theorem x1a5.{u0} {α0:Sort u0} {p0 p1 p2 p3 p4:α0→Prop} {G:Prop} (h:∃ x0,p0 x0∧p1 x0∧p2 x0∧p3 x0∧p4 x0) (k:∀ x0,p0 x0→p1 x0→p2 x0→p3 x0→p4 x0→G):G:=h.elim fun x0 h=>k x0 h.1 h.2.1 h.2.2.1 h.2.2.2.1 h.2.2.2.2
theorem x2a4.{u0,u1} {α0:Sort u0} {α1:Sort u1} {p0 p1 p2 p3:α0→α1→Prop} {G:Prop} (h:∃ x0 x1,p0 x0 x1∧p1 x0 x1∧p2 x0 x1∧p3 x0 x1) (k:∀ x0 x1,p0 x0 x1→p1 x0 x1→p2 x0 x1→p3 x0 x1→G):G:=h.elim fun x0 h=>h.elim fun x1 h=>k x0 x1 h.1 h.2.1 h.2.2.1 h.2.2.2
theorem x3a3.{u0,u1,u2} {α0:Sort u0} {α1:Sort u1} {α2:Sort u2} {p0 p1 p2:α0→α1→α2→Prop} {G:Prop} (h:∃ x0 x1 x2,p0 x0 x1 x2∧p1 x0 x1 x2∧p2 x0 x1 x2) (k:∀ x0 x1 x2,p0 x0 x1 x2→p1 x0 x1 x2→p2 x0 x1 x2→G):G:=h.elim fun x0 h=>h.elim fun x1 h=>h.elim fun x2 h=>k x0 x1 x2 h.1 h.2.1 h.2.2
theorem x2a5.{u0,u1} {α0:Sort u0} {α1:Sort u1} {p0 p1 p2 p3 p4:α0→α1→Prop} {G:Prop} (h:∃ x0 x1,p0 x0 x1∧p1 x0 x1∧p2 x0 x1∧p3 x0 x1∧p4 x0 x1) (k:∀ x0 x1,p0 x0 x1→p1 x0 x1→p2 x0 x1→p3 x0 x1→p4 x0 x1→G):G:=h.elim fun x0 h=>h.elim fun x1 h=>k x0 x1 h.1 h.2.1 h.2.2.1 h.2.2.2.1 h.2.2.2.2
theorem x3a4.{u0,u1,u2} {α0:Sort u0} {α1:Sort u1} {α2:Sort u2} {p0 p1 p2 p3:α0→α1→α2→Prop} {G:Prop} (h:∃ x0 x1 x2,p0 x0 x1 x2∧p1 x0 x1 x2∧p2 x0 x1 x2∧p3 x0 x1 x2) (k:∀ x0 x1 x2,p0 x0 x1 x2→p1 x0 x1 x2→p2 x0 x1 x2→p3 x0 x1 x2→G):G:=h.elim fun x0 h=>h.elim fun x1 h=>h.elim fun x2 h=>k x0 x1 x2 h.1 h.2.1 h.2.2.1 h.2.2.2
theorem x4a3.{u0,u1,u2,u3} {α0:Sort u0} {α1:Sort u1} {α2:Sort u2} {α3:Sort u3} {p0 p1 p2:α0→α1→α2→α3→Prop} {G:Prop} (h:∃ x0 x1 x2 x3,p0 x0 x1 x2 x3∧p1 x0 x1 x2 x3∧p2 x0 x1 x2 x3) (k:∀ x0 x1 x2 x3,p0 x0 x1 x2 x3→p1 x0 x1 x2 x3→p2 x0 x1 x2 x3→G):G:=h.elim fun x0 h=>h.elim fun x1 h=>h.elim fun x2 h=>h.elim fun x3 h=>k x0 x1 x2 x3 h.1 h.2.1 h.2.2
theorem x6a1.{u0,u1,u2,u3,u4,u5} {α0:Sort u0} {α1:Sort u1} {α2:Sort u2} {α3:Sort u3} {α4:Sort u4} {α5:Sort u5} {p0:α0→α1→α2→α3→α4→α5→Prop} {G:Prop} (h:∃ x0 x1 x2 x3 x4 x5,p0 x0 x1 x2 x3 x4 x5) (k:∀ x0 x1 x2 x3 x4 x5,p0 x0 x1 x2 x3 x4 x5→G):G:=h.elim fun x0 h=>h.elim fun x1 h=>h.elim fun x2 h=>h.elim fun x3 h=>h.elim fun x4 h=>h.elim fun x5 h=>k x0 x1 x2 x3 x4 x5 h
theorem x2a6.{u0,u1} {α0:Sort u0} {α1:Sort u1} {p0 p1 p2 p3 p4 p5:α0→α1→Prop} {G:Prop} (h:∃ x0 x1,p0 x0 x1∧p1 x0 x1∧p2 x0 x1∧p3 x0 x1∧p4 x0 x1∧p5 x0 x1) (k:∀ x0 x1,p0 x0 x1→p1 x0 x1→p2 x0 x1→p3 x0 x1→p4 x0 x1→p5 x0 x1→G):G:=h.elim fun x0 h=>h.elim fun x1 h=>k x0 x1 h.1 h.2.1 h.2.2.1 h.2.2.2.1 h.2.2.2.2.1 h.2.2.2.2.2
theorem x3a5.{u0,u1,u2} {α0:Sort u0} {α1:Sort u1} {α2:Sort u2} {p0 p1 p2 p3 p4:α0→α1→α2→Prop} {G:Prop} (h:∃ x0 x1 x2,p0 x0 x1 x2∧p1 x0 x1 x2∧p2 x0 x1 x2∧p3 x0 x1 x2∧p4 x0 x1 x2) (k:∀ x0 x1 x2,p0 x0 x1 x2→p1 x0 x1 x2→p2 x0 x1 x2→p3 x0 x1 x2→p4 x0 x1 x2→G):G:=h.elim fun x0 h=>h.elim fun x1 h=>h.elim fun x2 h=>k x0 x1 x2 h.1 h.2.1 h.2.2.1 h.2.2.2.1 h.2.2.2.2
theorem x4a4.{u0,u1,u2,u3} {α0:Sort u0} {α1:Sort u1} {α2:Sort u2} {α3:Sort u3} {p0 p1 p2 p3:α0→α1→α2→α3→Prop} {G:Prop} (h:∃ x0 x1 x2 x3,p0 x0 x1 x2 x3∧p1 x0 x1 x2 x3∧p2 x0 x1 x2 x3∧p3 x0 x1 x2 x3) (k:∀ x0 x1 x2 x3,p0 x0 x1 x2 x3→p1 x0 x1 x2 x3→p2 x0 x1 x2 x3→p3 x0 x1 x2 x3→G):G:=h.elim fun x0 h=>h.elim fun x1 h=>h.elim fun x2 h=>h.elim fun x3 h=>k x0 x1 x2 x3 h.1 h.2.1 h.2.2.1 h.2.2.2
theorem x3a6.{u0,u1,u2} {α0:Sort u0} {α1:Sort u1} {α2:Sort u2} {p0 p1 p2 p3 p4 p5:α0→α1→α2→Prop} {G:Prop} (h:∃ x0 x1 x2,p0 x0 x1 x2∧p1 x0 x1 x2∧p2 x0 x1 x2∧p3 x0 x1 x2∧p4 x0 x1 x2∧p5 x0 x1 x2) (k:∀ x0 x1 x2,p0 x0 x1 x2→p1 x0 x1 x2→p2 x0 x1 x2→p3 x0 x1 x2→p4 x0 x1 x2→p5 x0 x1 x2→G):G:=h.elim fun x0 h=>h.elim fun x1 h=>h.elim fun x2 h=>k x0 x1 x2 h.1 h.2.1 h.2.2.1 h.2.2.2.1 h.2.2.2.2.1 h.2.2.2.2.2
theorem x4a5.{u0,u1,u2,u3} {α0:Sort u0} {α1:Sort u1} {α2:Sort u2} {α3:Sort u3} {p0 p1 p2 p3 p4:α0→α1→α2→α3→Prop} {G:Prop} (h:∃ x0 x1 x2 x3,p0 x0 x1 x2 x3∧p1 x0 x1 x2 x3∧p2 x0 x1 x2 x3∧p3 x0 x1 x2 x3∧p4 x0 x1 x2 x3) (k:∀ x0 x1 x2 x3,p0 x0 x1 x2 x3→p1 x0 x1 x2 x3→p2 x0 x1 x2 x3→p3 x0 x1 x2 x3→p4 x0 x1 x2 x3→G):G:=h.elim fun x0 h=>h.elim fun x1 h=>h.elim fun x2 h=>h.elim fun x3 h=>k x0 x1 x2 x3 h.1 h.2.1 h.2.2.1 h.2.2.2.1 h.2.2.2.2
theorem x5a4.{u0,u1,u2,u3,u4} {α0:Sort u0} {α1:Sort u1} {α2:Sort u2} {α3:Sort u3} {α4:Sort u4} {p0 p1 p2 p3:α0→α1→α2→α3→α4→Prop} {G:Prop} (h:∃ x0 x1 x2 x3 x4,p0 x0 x1 x2 x3 x4∧p1 x0 x1 x2 x3 x4∧p2 x0 x1 x2 x3 x4∧p3 x0 x1 x2 x3 x4) (k:∀ x0 x1 x2 x3 x4,p0 x0 x1 x2 x3 x4→p1 x0 x1 x2 x3 x4→p2 x0 x1 x2 x3 x4→p3 x0 x1 x2 x3 x4→G):G:=h.elim fun x0 h=>h.elim fun x1 h=>h.elim fun x2 h=>h.elim fun x3 h=>h.elim fun x4 h=>k x0 x1 x2 x3 x4 h.1 h.2.1 h.2.2.1 h.2.2.2
theorem x7a2.{u0,u1,u2,u3,u4,u5,u6} {α0:Sort u0} {α1:Sort u1} {α2:Sort u2} {α3:Sort u3} {α4:Sort u4} {α5:Sort u5} {α6:Sort u6} {p0 p1:α0→α1→α2→α3→α4→α5→α6→Prop} {G:Prop} (h:∃ x0 x1 x2 x3 x4 x5 x6,p0 x0 x1 x2 x3 x4 x5 x6∧p1 x0 x1 x2 x3 x4 x5 x6) (k:∀ x0 x1 x2 x3 x4 x5 x6,p0 x0 x1 x2 x3 x4 x5 x6→p1 x0 x1 x2 x3 x4 x5 x6→G):G:=h.elim fun x0 h=>h.elim fun x1 h=>h.elim fun x2 h=>h.elim fun x3 h=>h.elim fun x4 h=>h.elim fun x5 h=>h.elim fun x6 h=>k x0 x1 x2 x3 x4 x5 x6 h.1 h.2
theorem x3a7.{u0,u1,u2} {α0:Sort u0} {α1:Sort u1} {α2:Sort u2} {p0 p1 p2 p3 p4 p5 p6:α0→α1→α2→Prop} {G:Prop} (h:∃ x0 x1 x2,p0 x0 x1 x2∧p1 x0 x1 x2∧p2 x0 x1 x2∧p3 x0 x1 x2∧p4 x0 x1 x2∧p5 x0 x1 x2∧p6 x0 x1 x2) (k:∀ x0 x1 x2,p0 x0 x1 x2→p1 x0 x1 x2→p2 x0 x1 x2→p3 x0 x1 x2→p4 x0 x1 x2→p5 x0 x1 x2→p6 x0 x1 x2→G):G:=h.elim fun x0 h=>h.elim fun x1 h=>h.elim fun x2 h=>k x0 x1 x2 h.1 h.2.1 h.2.2.1 h.2.2.2.1 h.2.2.2.2.1 h.2.2.2.2.2.1 h.2.2.2.2.2.2
theorem x4a6.{u0,u1,u2,u3} {α0:Sort u0} {α1:Sort u1} {α2:Sort u2} {α3:Sort u3} {p0 p1 p2 p3 p4 p5:α0→α1→α2→α3→Prop} {G:Prop} (h:∃ x0 x1 x2 x3,p0 x0 x1 x2 x3∧p1 x0 x1 x2 x3∧p2 x0 x1 x2 x3∧p3 x0 x1 x2 x3∧p4 x0 x1 x2 x3∧p5 x0 x1 x2 x3) (k:∀ x0 x1 x2 x3,p0 x0 x1 x2 x3→p1 x0 x1 x2 x3→p2 x0 x1 x2 x3→p3 x0 x1 x2 x3→p4 x0 x1 x2 x3→p5 x0 x1 x2 x3→G):G:=h.elim fun x0 h=>h.elim fun x1 h=>h.elim fun x2 h=>h.elim fun x3 h=>k x0 x1 x2 x3 h.1 h.2.1 h.2.2.1 h.2.2.2.1 h.2.2.2.2.1 h.2.2.2.2.2
theorem x5a5.{u0,u1,u2,u3,u4} {α0:Sort u0} {α1:Sort u1} {α2:Sort u2} {α3:Sort u3} {α4:Sort u4} {p0 p1 p2 p3 p4:α0→α1→α2→α3→α4→Prop} {G:Prop} (h:∃ x0 x1 x2 x3 x4,p0 x0 x1 x2 x3 x4∧p1 x0 x1 x2 x3 x4∧p2 x0 x1 x2 x3 x4∧p3 x0 x1 x2 x3 x4∧p4 x0 x1 x2 x3 x4) (k:∀ x0 x1 x2 x3 x4,p0 x0 x1 x2 x3 x4→p1 x0 x1 x2 x3 x4→p2 x0 x1 x2 x3 x4→p3 x0 x1 x2 x3 x4→p4 x0 x1 x2 x3 x4→G):G:=h.elim fun x0 h=>h.elim fun x1 h=>h.elim fun x2 h=>h.elim fun x3 h=>h.elim fun x4 h=>k x0 x1 x2 x3 x4 h.1 h.2.1 h.2.2.1 h.2.2.2.1 h.2.2.2.2
theorem x6a4.{u0,u1,u2,u3,u4,u5} {α0:Sort u0} {α1:Sort u1} {α2:Sort u2} {α3:Sort u3} {α4:Sort u4} {α5:Sort u5} {p0 p1 p2 p3:α0→α1→α2→α3→α4→α5→Prop} {G:Prop} (h:∃ x0 x1 x2 x3 x4 x5,p0 x0 x1 x2 x3 x4 x5∧p1 x0 x1 x2 x3 x4 x5∧p2 x0 x1 x2 x3 x4 x5∧p3 x0 x1 x2 x3 x4 x5) (k:∀ x0 x1 x2 x3 x4 x5,p0 x0 x1 x2 x3 x4 x5→p1 x0 x1 x2 x3 x4 x5→p2 x0 x1 x2 x3 x4 x5→p3 x0 x1 x2 x3 x4 x5→G):G:=h.elim fun x0 h=>h.elim fun x1 h=>h.elim fun x2 h=>h.elim fun x3 h=>h.elim fun x4 h=>h.elim fun x5 h=>k x0 x1 x2 x3 x4 x5 h.1 h.2.1 h.2.2.1 h.2.2.2
theorem x4a7.{u0,u1,u2,u3} {α0:Sort u0} {α1:Sort u1} {α2:Sort u2} {α3:Sort u3} {p0 p1 p2 p3 p4 p5 p6:α0→α1→α2→α3→Prop} {G:Prop} (h:∃ x0 x1 x2 x3,p0 x0 x1 x2 x3∧p1 x0 x1 x2 x3∧p2 x0 x1 x2 x3∧p3 x0 x1 x2 x3∧p4 x0 x1 x2 x3∧p5 x0 x1 x2 x3∧p6 x0 x1 x2 x3) (k:∀ x0 x1 x2 x3,p0 x0 x1 x2 x3→p1 x0 x1 x2 x3→p2 x0 x1 x2 x3→p3 x0 x1 x2 x3→p4 x0 x1 x2 x3→p5 x0 x1 x2 x3→p6 x0 x1 x2 x3→G):G:=h.elim fun x0 h=>h.elim fun x1 h=>h.elim fun x2 h=>h.elim fun x3 h=>k x0 x1 x2 x3 h.1 h.2.1 h.2.2.1 h.2.2.2.1 h.2.2.2.2.1 h.2.2.2.2.2.1 h.2.2.2.2.2.2
theorem x9a2.{u0,u1,u2,u3,u4,u5,u6,u7,u8} {α0:Sort u0} {α1:Sort u1} {α2:Sort u2} {α3:Sort u3} {α4:Sort u4} {α5:Sort u5} {α6:Sort u6} {α7:Sort u7} {α8:Sort u8} {p0 p1:α0→α1→α2→α3→α4→α5→α6→α7→α8→Prop} {G:Prop} (h:∃ x0 x1 x2 x3 x4 x5 x6 x7 x8,p0 x0 x1 x2 x3 x4 x5 x6 x7 x8∧p1 x0 x1 x2 x3 x4 x5 x6 x7 x8) (k:∀ x0 x1 x2 x3 x4 x5 x6 x7 x8,p0 x0 x1 x2 x3 x4 x5 x6 x7 x8→p1 x0 x1 x2 x3 x4 x5 x6 x7 x8→G):G:=h.elim fun x0 h=>h.elim fun x1 h=>h.elim fun x2 h=>h.elim fun x3 h=>h.elim fun x4 h=>h.elim fun x5 h=>h.elim fun x6 h=>h.elim fun x7 h=>h.elim fun x8 h=>k x0 x1 x2 x3 x4 x5 x6 x7 x8 h.1 h.2
theorem x5a7.{u0,u1,u2,u3,u4} {α0:Sort u0} {α1:Sort u1} {α2:Sort u2} {α3:Sort u3} {α4:Sort u4} {p0 p1 p2 p3 p4 p5 p6:α0→α1→α2→α3→α4→Prop} {G:Prop} (h:∃ x0 x1 x2 x3 x4,p0 x0 x1 x2 x3 x4∧p1 x0 x1 x2 x3 x4∧p2 x0 x1 x2 x3 x4∧p3 x0 x1 x2 x3 x4∧p4 x0 x1 x2 x3 x4∧p5 x0 x1 x2 x3 x4∧p6 x0 x1 x2 x3 x4) (k:∀ x0 x1 x2 x3 x4,p0 x0 x1 x2 x3 x4→p1 x0 x1 x2 x3 x4→p2 x0 x1 x2 x3 x4→p3 x0 x1 x2 x3 x4→p4 x0 x1 x2 x3 x4→p5 x0 x1 x2 x3 x4→p6 x0 x1 x2 x3 x4→G):G:=h.elim fun x0 h=>h.elim fun x1 h=>h.elim fun x2 h=>h.elim fun x3 h=>h.elim fun x4 h=>k x0 x1 x2 x3 x4 h.1 h.2.1 h.2.2.1 h.2.2.2.1 h.2.2.2.2.1 h.2.2.2.2.2.1 h.2.2.2.2.2.2
theorem x5a9.{u0,u1,u2,u3,u4} {α0:Sort u0} {α1:Sort u1} {α2:Sort u2} {α3:Sort u3} {α4:Sort u4} {p0 p1 p2 p3 p4 p5 p6 p7 p8:α0→α1→α2→α3→α4→Prop} {G:Prop} (h:∃ x0 x1 x2 x3 x4,p0 x0 x1 x2 x3 x4∧p1 x0 x1 x2 x3 x4∧p2 x0 x1 x2 x3 x4∧p3 x0 x1 x2 x3 x4∧p4 x0 x1 x2 x3 x4∧p5 x0 x1 x2 x3 x4∧p6 x0 x1 x2 x3 x4∧p7 x0 x1 x2 x3 x4∧p8 x0 x1 x2 x3 x4) (k:∀ x0 x1 x2 x3 x4,p0 x0 x1 x2 x3 x4→p1 x0 x1 x2 x3 x4→p2 x0 x1 x2 x3 x4→p3 x0 x1 x2 x3 x4→p4 x0 x1 x2 x3 x4→p5 x0 x1 x2 x3 x4→p6 x0 x1 x2 x3 x4→p7 x0 x1 x2 x3 x4→p8 x0 x1 x2 x3 x4→G):G:=h.elim fun x0 h=>h.elim fun x1 h=>h.elim fun x2 h=>h.elim fun x3 h=>h.elim fun x4 h=>k x0 x1 x2 x3 x4 h.1 h.2.1 h.2.2.1 h.2.2.2.1 h.2.2.2.2.1 h.2.2.2.2.2.1 h.2.2.2.2.2.2.1 h.2.2.2.2.2.2.2.1 h.2.2.2.2.2.2.2.2
theorem x11a5.{u0,u1,u2,u3,u4,u5,u6,u7,u8,u9,u10} {α0:Sort u0} {α1:Sort u1} {α2:Sort u2} {α3:Sort u3} {α4:Sort u4} {α5:Sort u5} {α6:Sort u6} {α7:Sort u7} {α8:Sort u8} {α9:Sort u9} {α10:Sort u10} {p0 p1 p2 p3 p4:α0→α1→α2→α3→α4→α5→α6→α7→α8→α9→α10→Prop} {G:Prop} (h:∃ x0 x1 x2 x3 x4 x5 x6 x7 x8 x9 x10,p0 x0 x1 x2 x3 x4 x5 x6 x7 x8 x9 x10∧p1 x0 x1 x2 x3 x4 x5 x6 x7 x8 x9 x10∧p2 x0 x1 x2 x3 x4 x5 x6 x7 x8 x9 x10∧p3 x0 x1 x2 x3 x4 x5 x6 x7 x8 x9 x10∧p4 x0 x1 x2 x3 x4 x5 x6 x7 x8 x9 x10) (k:∀ x0 x1 x2 x3 x4 x5 x6 x7 x8 x9 x10,p0 x0 x1 x2 x3 x4 x5 x6 x7 x8 x9 x10→p1 x0 x1 x2 x3 x4 x5 x6 x7 x8 x9 x10→p2 x0 x1 x2 x3 x4 x5 x6 x7 x8 x9 x10→p3 x0 x1 x2 x3 x4 x5 x6 x7 x8 x9 x10→p4 x0 x1 x2 x3 x4 x5 x6 x7 x8 x9 x10→G):G:=h.elim fun x0 h=>h.elim fun x1 h=>h.elim fun x2 h=>h.elim fun x3 h=>h.elim fun x4 h=>h.elim fun x5 h=>h.elim fun x6 h=>h.elim fun x7 h=>h.elim fun x8 h=>h.elim fun x9 h=>h.elim fun x10 h=>k x0 x1 x2 x3 x4 x5 x6 x7 x8 x9 x10 h.1 h.2.1 h.2.2.1 h.2.2.2.1 h.2.2.2.2
theorem x12a7.{u0,u1,u2,u3,u4,u5,u6,u7,u8,u9,u10,u11} {α0:Sort u0} {α1:Sort u1} {α2:Sort u2} {α3:Sort u3} {α4:Sort u4} {α5:Sort u5} {α6:Sort u6} {α7:Sort u7} {α8:Sort u8} {α9:Sort u9} {α10:Sort u10} {α11:Sort u11} {p0 p1 p2 p3 p4 p5 p6:α0→α1→α2→α3→α4→α5→α6→α7→α8→α9→α10→α11→Prop} {G:Prop} (h:∃ x0 x1 x2 x3 x4 x5 x6 x7 x8 x9 x10 x11,p0 x0 x1 x2 x3 x4 x5 x6 x7 x8 x9 x10 x11∧p1 x0 x1 x2 x3 x4 x5 x6 x7 x8 x9 x10 x11∧p2 x0 x1 x2 x3 x4 x5 x6 x7 x8 x9 x10 x11∧p3 x0 x1 x2 x3 x4 x5 x6 x7 x8 x9 x10 x11∧p4 x0 x1 x2 x3 x4 x5 x6 x7 x8 x9 x10 x11∧p5 x0 x1 x2 x3 x4 x5 x6 x7 x8 x9 x10 x11∧p6 x0 x1 x2 x3 x4 x5 x6 x7 x8 x9 x10 x11) (k:∀ x0 x1 x2 x3 x4 x5 x6 x7 x8 x9 x10 x11,p0 x0 x1 x2 x3 x4 x5 x6 x7 x8 x9 x10 x11→p1 x0 x1 x2 x3 x4 x5 x6 x7 x8 x9 x10 x11→p2 x0 x1 x2 x3 x4 x5 x6 x7 x8 x9 x10 x11→p3 x0 x1 x2 x3 x4 x5 x6 x7 x8 x9 x10 x11→p4 x0 x1 x2 x3 x4 x5 x6 x7 x8 x9 x10 x11→p5 x0 x1 x2 x3 x4 x5 x6 x7 x8 x9 x10 x11→p6 x0 x1 x2 x3 x4 x5 x6 x7 x8 x9 x10 x11→G):G:=h.elim fun x0 h=>h.elim fun x1 h=>h.elim fun x2 h=>h.elim fun x3 h=>h.elim fun x4 h=>h.elim fun x5 h=>h.elim fun x6 h=>h.elim fun x7 h=>h.elim fun x8 h=>h.elim fun x9 h=>h.elim fun x10 h=>h.elim fun x11 h=>k x0 x1 x2 x3 x4 x5 x6 x7 x8 x9 x10 x11 h.1 h.2.1 h.2.2.1 h.2.2.2.1 h.2.2.2.2.1 h.2.2.2.2.2.1 h.2.2.2.2.2.2
theorem x13a6.{u0,u1,u2,u3,u4,u5,u6,u7,u8,u9,u10,u11,u12} {α0:Sort u0} {α1:Sort u1} {α2:Sort u2} {α3:Sort u3} {α4:Sort u4} {α5:Sort u5} {α6:Sort u6} {α7:Sort u7} {α8:Sort u8} {α9:Sort u9} {α10:Sort u10} {α11:Sort u11} {α12:Sort u12} {p0 p1 p2 p3 p4 p5:α0→α1→α2→α3→α4→α5→α6→α7→α8→α9→α10→α11→α12→Prop} {G:Prop} (h:∃ x0 x1 x2 x3 x4 x5 x6 x7 x8 x9 x10 x11 x12,p0 x0 x1 x2 x3 x4 x5 x6 x7 x8 x9 x10 x11 x12∧p1 x0 x1 x2 x3 x4 x5 x6 x7 x8 x9 x10 x11 x12∧p2 x0 x1 x2 x3 x4 x5 x6 x7 x8 x9 x10 x11 x12∧p3 x0 x1 x2 x3 x4 x5 x6 x7 x8 x9 x10 x11 x12∧p4 x0 x1 x2 x3 x4 x5 x6 x7 x8 x9 x10 x11 x12∧p5 x0 x1 x2 x3 x4 x5 x6 x7 x8 x9 x10 x11 x12) (k:∀ x0 x1 x2 x3 x4 x5 x6 x7 x8 x9 x10 x11 x12,p0 x0 x1 x2 x3 x4 x5 x6 x7 x8 x9 x10 x11 x12→p1 x0 x1 x2 x3 x4 x5 x6 x7 x8 x9 x10 x11 x12→p2 x0 x1 x2 x3 x4 x5 x6 x7 x8 x9 x10 x11 x12→p3 x0 x1 x2 x3 x4 x5 x6 x7 x8 x9 x10 x11 x12→p4 x0 x1 x2 x3 x4 x5 x6 x7 x8 x9 x10 x11 x12→p5 x0 x1 x2 x3 x4 x5 x6 x7 x8 x9 x10 x11 x12→G):G:=h.elim fun x0 h=>h.elim fun x1 h=>h.elim fun x2 h=>h.elim fun x3 h=>h.elim fun x4 h=>h.elim fun x5 h=>h.elim fun x6 h=>h.elim fun x7 h=>h.elim fun x8 h=>h.elim fun x9 h=>h.elim fun x10 h=>h.elim fun x11 h=>h.elim fun x12 h=>k x0 x1 x2 x3 x4 x5 x6 x7 x8 x9 x10 x11 x12 h.1 h.2.1 h.2.2.1 h.2.2.2.1 h.2.2.2.2.1 h.2.2.2.2.2
end Mine
namespace Mine
theorem ft' {p:Prop} (h:false = true):p:=(Bool.false_ne_true h).elim
theorem tf' {p:Prop} (h:true = false):p:=(Bool.false_ne_true h.symm).elim
theorem nS' {α:Type u} {x:α} {p:Prop} (h:(none:Option α) = some x):p:=nomatch h
theorem sN' {α:Type u} {x:α} {p:Prop} (h:some x = none):p:=nS' h.symm
theorem jS {α:Type u} {x y:α} {p:Prop} (h:some x = some y) (k:x = y→p):p:=k (Option.some.inj h)
@[elab_as_elim] theorem rwr {α:Sort u} {a b:α} {p:α→Prop} (h:a = b) (k:p b):p a:=by subst h;exact k
@[elab_as_elim] theorem rwl {α:Sort u} {a b:α} {p:α→Prop} (h:a = b) (k:p a):p b:=by subst h;exact k
theorem ifR {c:Prop} {i:Decidable c} {α:Sort u} {a b w:α} {G:Prop} (k:c→a = w→G) (l:¬c→b = w→G) (h:(if c then a else b) = w):G:=if q:c then k q ((if_pos q).symm.trans h) else l q ((if_neg q).symm.trans h)
theorem ifL {c:Prop} {i:Decidable c} {α:Sort u} {a b w:α} (k:c→a = w) (l:¬c→b = w):(if c then a else b) = w:=if q:c then (if_pos q).trans (k q) else (if_neg q).trans (l q)
theorem ifM {c:Prop} {i:Decidable c} {α:Sort u} {a b w:α} (k:c→w = a) (l:¬c→w = b):w = (if c then a else b):=(ifL (fun q=>(k q).symm) fun q=>(l q).symm).symm
theorem y12.{u} {α:Sort u} {a:Prop} {p q:α→Prop} {G:Prop} (h:a∧∃ m,p m∧q m) (k:a→∀ m,p m→q m→G):G:=h.2.elim fun m j=>k h.1 m j.1 j.2
theorem y22.{u} {α:Sort u} {a b:Prop} {p q:α→Prop} {G:Prop} (h:(a∧b)∧∃ m,p m∧q m) (k:a→b→∀ m,p m→q m→G):G:=h.2.elim fun m j=>k h.1.1 h.1.2 m j.1 j.2
theorem mB {c:Bool} {α:Type} {a b w:α} {G:Prop}:(c = true→a = w→G)→(c = false→b = w→G)→(match c with | true=>a | false=>b) = w→G:=by induction c using Bool.casesOn <;> intro k l h <;> first | exact k rfl h | exact l rfl h
theorem mP {β:Type} {c:Option β} {α:Type} {a:β→α} {b w:α} {G:Prop}:(∀ x,c = some x→a x = w→G)→(c = none→b = w→G)→(match c with | some x=>a x | none=>b) = w→G:=by induction c using Option.casesOn <;> intro k l h <;> first | exact k _ rfl h | exact l rfl h
theorem m4a6.{u0,u1,u2,u3} {α0:Sort u0} {α1:Sort u1} {α2:Sort u2} {α3:Sort u3} {p0 p1 p2 p3 p4 p5:α0→α1→α2→α3→Prop} (x0:α0) (x1:α1) (x2:α2) (x3:α3) (h0:p0 x0 x1 x2 x3) (h1:p1 x0 x1 x2 x3) (h2:p2 x0 x1 x2 x3) (h3:p3 x0 x1 x2 x3) (h4:p4 x0 x1 x2 x3) (h5:p5 x0 x1 x2 x3):∃ x0 x1 x2 x3,p0 x0 x1 x2 x3∧p1 x0 x1 x2 x3∧p2 x0 x1 x2 x3∧p3 x0 x1 x2 x3∧p4 x0 x1 x2 x3∧p5 x0 x1 x2 x3:=⟨x0,x1,x2,x3,h0,h1,h2,h3,h4,h5⟩
theorem m3a6.{u0,u1,u2} {α0:Sort u0} {α1:Sort u1} {α2:Sort u2} {p0 p1 p2 p3 p4 p5:α0→α1→α2→Prop} (x0:α0) (x1:α1) (x2:α2) (h0:p0 x0 x1 x2) (h1:p1 x0 x1 x2) (h2:p2 x0 x1 x2) (h3:p3 x0 x1 x2) (h4:p4 x0 x1 x2) (h5:p5 x0 x1 x2):∃ x0 x1 x2,p0 x0 x1 x2∧p1 x0 x1 x2∧p2 x0 x1 x2∧p3 x0 x1 x2∧p4 x0 x1 x2∧p5 x0 x1 x2:=⟨x0,x1,x2,h0,h1,h2,h3,h4,h5⟩
end Mine
open Lean in
local macro_rules
  | `(tactic| rw [$rs,*])=>do
    let f (r:Syntax):MacroM (TSyntax `tactic):=`(tactic| first | refine $(mkIdent (if r[0].isNone then `Mine.rwr else `Mine.rwl)) $(⟨r[1]⟩) ?_ | rewrite [$(⟨r⟩)])
    let out ← rs.getElems.mapM f
    `(tactic| ($[$out:tactic];*;try (with_reducible rfl)))
section
noncomputable section
namespace Mine
noncomputable def keyL (l:List Nat):Nat:=List.rec 0 (fun c _ ih=>2 ^ c * (2 * ih + 1)) l
noncomputable def key (x:Str):Nat:=keyL x.cps.toList
inductive BI where | len | abs | max | min | isinstance | sorted
inductive TY where | range | tuple | str | list | int
inductive Bt where | z | o | s (i j:Nat)
inductive V where
 | none | bool (b:Bool) | int (i:Int) | str (x:Str) | top (a:Nat) | bi (b:BI) | ty (t:TY) | tup (l:List V) | loc (n:Nat)
 | bv (l:List Bt) | sb (i:Nat) | opq (i:Nat)
structure Ve where
 cells:List (Nat×Nat)
 dep:Nat
inductive O where
 | cell (v:Option V)
 | list (xs:List V)
 | edict
 | sdict (xs:List (Nat×V))
 | idict (xs:List (Int×V))
 | inst (C:Nat) (d:Nat)
 | attrs (xs:List (Nat×V))
 | clos (cells:List (Nat×Nat)) (sc:Scope) (body:PySem.Expr)
 | rows
 | vals (xs:List (Int×V))
 | one (k:Int) (v:Option V)
 | raw (C:Nat)
 | exc (C d:Nat)
 | stv (ws:List (Int×Nat))
 | crl (n:Nat)
 | prs (k:Nat)
structure St where
 cur:List (Nat×V)
 led:List (Nat×O)
 nxt:Nat
 syn:Nat
 fz:Nat
structure Cl where
 init:Nat
 meths:List (Nat×Nat)
 attrs:List Nat
 exc:Bool
inductive Tr (α:Type) where
 | e | n (l:Tr α) (k:Nat) (v:α) (r:Tr α)
noncomputable def Tr.get {α:Type} (t:Tr α) (x:Nat):Option α:=Tr.rec none (fun _ k v _ il ir=>Bool.rec (Bool.rec il ir (Nat.ble k x)) (some v) (Nat.beq k x)) t
noncomputable def lk {α:Type} (m:List (Nat×α)) (x:Nat):Option α:=List.rec none (fun p _ ih=>Bool.rec ih (some p.2) (Nat.beq p.1 x)) m
noncomputable def hasN (l:List Nat) (x:Nat):Bool:=List.rec false (fun y _ ih=>Bool.rec ih true (Nat.beq y x)) l
noncomputable def up {α:Type} (m:List (Nat×α)) (x:Nat) (v:α):List (Nat×α):=List.rec [(x,v)] (fun p r ih=>Bool.rec (p :: ih) ((p.1,v) :: r) (Nat.beq p.1 x)) m
noncomputable def beqI (a b:Int):Bool:=match a with
 | .ofNat a=>(match b with | .ofNat b=>Nat.beq a b | .negSucc _=>false)
 | .negSucc a=>(match b with | .negSucc b=>Nat.beq a b | .ofNat _=>false)
noncomputable def lkI (m:List (Int×V)) (x:Int):Option V:=List.rec none (fun p _ ih=>Bool.rec ih (some p.2) (beqI p.1 x)) m
noncomputable def upI (m:List (Int×V)) (x:Int) (v:V):List (Int×V):=List.rec [(x,v)] (fun p r ih=>Bool.rec (p :: ih) ((p.1,v) :: r) (beqI p.1 x)) m
noncomputable def app {α:Type} (l m:List α):List α:=List.rec m (fun a _ ih=>a :: ih) l
noncomputable def len {α:Type} (l:List α):Nat:=List.rec 0 (fun _ _ ih=>ih + 1) l
noncomputable def takeL {α:Type} (n:Nat) (l:List α):List α:=List.rec (motive:=fun _=>Nat→List α) (fun _=>[]) (fun a _ ih n=>Nat.rec [] (fun k _=>a :: ih k) n) l n
noncomputable def dropL {α:Type} (n:Nat) (l:List α):List α:=Nat.rec (motive:=fun _=>List α→List α) (fun l=>l) (fun _ ih l=>List.rec [] (fun _ r _=>ih r) l) n l
noncomputable def revL {α:Type} (l:List α):List α:=List.rec (motive:=fun _=>List α→List α) (fun a=>a) (fun x _ ih a=>ih (x :: a)) l []
noncomputable def repB (n:Nat):List Bt→List Bt:=fun l=>Nat.rec l (fun _ ih=>.z :: ih) n
noncomputable def St.at (σ:St) (n:Nat):Option O:=lk σ.led n
noncomputable def St.put (σ:St) (n:Nat) (o:O):St:={ σ with led:=up σ.led n o }
noncomputable def noCells (ns:List (Str×NameKind)):Bool:=List.rec true (fun p _ ih=>match p.2 with | .cell=>false | _=>ih) ns
noncomputable def isFun (k:ScopeKind):Bool:=match k with | .function=>true | _=>false
noncomputable def notB' (b:Bool):Bool:=match b with | true=>false | false=>true
noncomputable def okF (sc:Scope):Bool:=match isFun sc.kind with
 | true=>(match sc.isGenerator with | true=>false | false=>notB' sc.isCoroutine)
 | false=>false
noncomputable def okSc (sc:Scope):Bool:=match okF sc with | true=>noCells sc.names | false=>false
noncomputable def St.putZ (σ:St) (n:Nat) (o:O):Option St:=match Nat.ble σ.fz n with | true=>some (σ.put n o) | false=>none
noncomputable def St.new (σ:St) (o:O):St:={ σ with led:=(σ.nxt,o) :: σ.led,nxt:=σ.nxt + 1 }
noncomputable def St.set (σ:St) (x:Nat) (v:V):St:={ σ with cur:=up σ.cur x v }
inductive Fl where | next | ret (v:V) | cont
abbrev KX:=V→St→Bool
abbrev KB:=Bool→St→Bool
abbrev KL:=List V→St→Bool
abbrev KS:=Fl→St→Bool
abbrev Rc:=Nat→V→List V→St→KX→KX→Bool
structure C where
 x:Rc→Ve→St→KX→KX→Bool
 t:Rc→Ve→St→KB→KX→Bool
structure CS where
 s:Rc→Ve→St→KS→KX→Bool
structure Fn where
 params:List Nat
 dflts:List V
 kinds:List (Nat×NameKind)
 body:CS
structure Tx where
 glob:Tr V
 fns:Tr Fn
 cls:Tr Cl
 isStore:Nat
noncomputable def sbs (i n:Nat):Nat→List Bt:=Nat.rec (motive:=fun _=>Nat→List Bt) (fun _=>[]) (fun _ ih j=>.s i j :: ih (j + 1)) n
noncomputable def toBits (f n:Nat):List Bt:=Nat.rec (motive:=fun _=>Nat→List Bt) (fun _=>[]) (fun _ ih n=>Bool.rec ((Bool.rec .o .z (Nat.beq (n % 2) 0)) :: ih (n / 2)) [] (Nat.beq n 0)) f n
noncomputable def bitsN (n:Nat):Option (List Bt):=match Nat.ble n 1152921504606846976 with | true=>some (toBits 64 n) | false=>none
noncomputable def bitsOf (x:V):Option (List Bt):=match x with
 | .bv l=>some l
 | .int n=>(match n with | .ofNat n=>bitsN n | .negSucc _=>none)
 | _=>none
noncomputable def bAnd:Bt→Bt→Option Bt
 | .z,_=>some .z
 | _,.z=>some .z
 | .o,b=>some b
 | b,.o=>some b
 | _,_=>none
noncomputable def bOr:Bt→Bt→Option Bt
 | .z,b=>some b
 | b,.z=>some b
 | .o,_=>some .o
 | _,.o=>some .o
 | _,_=>none
noncomputable def consO (x:Option Bt) (y:Option (List Bt)):Option (List Bt):=match x with
 | some b=>(match y with | some r=>some (b :: r) | none=>none)
 | none=>none
noncomputable def zipZ (f:Bt→Bt→Option Bt) (l:List Bt):Option (List Bt):=List.rec (some []) (fun y _ ih=>consO (f .z y) ih) l
noncomputable def zip2 (f:Bt→Bt→Option Bt) (l m:List Bt):Option (List Bt):=List.rec (motive:=fun _=>List Bt→Option (List Bt)) (fun m=>zipZ f m)
 (fun x _ ih m=>List.rec (consO (f x .z) (ih [])) (fun y ys _=>consO (f x y) (ih ys)) m) l m
noncomputable def bAdd:Bt→Bt→Option Bt
 | .z,b=>some b
 | b,.z=>some b
 | _,_=>none
noncomputable def isPow2 (n:Nat):Option Nat:=match Nat.beq n 0 with
 | true=>none
 | false=>match Nat.beq n (2 ^ (Nat.log2 n)) with | true=>some (Nat.log2 n) | false=>none
noncomputable def beqBt:Bt→Bt→Bool
 | .z,.z=>true
 | .o,.o=>true
 | .s i j,.s k l=>match Nat.beq i k with | true=>Nat.beq j l | false=>false
 | _,_=>false
noncomputable def allZ (l:List Bt):Bool:=List.rec true (fun b _ ih=>match b with | .z=>ih | _=>false) l
noncomputable def beqBts (l m:List Bt):Bool:=List.rec (motive:=fun _=>List Bt→Bool) (fun m=>allZ m)
 (fun x xs ih m=>List.rec (allZ (x :: xs)) (fun y ys _=>Bool.rec false (ih ys) (beqBt x y)) m) l m
noncomputable def nn2 (f:Nat→Nat→Option Nat) (a b:Int):Option Int:=match a with
 | .ofNat a=>(match b with | .ofNat b=>(match f a b with | some c=>some (.ofNat c) | none=>none) | .negSucc _=>none)
 | .negSucc _=>none
noncomputable def sm (k:Nat) (a:Int):Bool:=match a with | .ofNat n=>Nat.ble n k | .negSucc n=>Nat.ble (n + 1) k
noncomputable def ifO (b:Bool) (x:Option Int):Option Int:=match b with | true=>x | false=>none
noncomputable def smN (a b:Nat):Bool:=match Nat.ble a 1152921504606846976 with | true=>Nat.ble b 1000 | false=>false
noncomputable def gN (b:Bool) (n:Nat):Option Nat:=match b with | true=>some n | false=>none
noncomputable def intOp (o:Operator) (a b:Int):Option Int:=match o with
 | .Add=>some (a + b)
 | .Sub=>some (a - b)
 | .Mult=>ifO (sm 1152921504606846976 a) (some (a * b))
 | .FloorDiv=>match beqI b 0 with | true=>none | false=>ifO (sm 1000000 b) (some (Int.fdiv a b))
 | .Mod=>match beqI b 0 with | true=>none | false=>some (Int.fmod a b)
 | .Pow=>nn2 (fun a b=>gN (smN a b) (a ^ b)) a b
 | .LShift=>nn2 (fun a b=>gN (smN a b) (a * 2 ^ b)) a b
 | .RShift=>nn2 (fun a b=>some (a / 2 ^ b)) a b
 | .BitAnd=>nn2 (fun a b=>some (Nat.land a b)) a b
 | .BitOr=>nn2 (fun a b=>some (Nat.lor a b)) a b
 | .BitXor=>nn2 (fun a b=>some (Nat.xor a b)) a b
 | _=>none
noncomputable def shl (n:Nat) (l:List Bt):List Bt:=repB n l
noncomputable def opt2 (f:List Bt→List Bt→Option (List Bt)) (a b:Option (List Bt)):Option V:=match a with
 | some a=>(match b with | some b=>(match f a b with | some l=>some (.bv l) | none=>none) | none=>none)
 | none=>none
noncomputable def natOf (y:V):Option Nat:=match y with
 | .int n=>(match n with | .ofNat n=>some n | .negSucc _=>none)
 | _=>none
noncomputable def fitN (a:List Bt) (n:Nat):Bool:=match Nat.ble (len a) 60 with | true=>Nat.ble n 24 | false=>false
noncomputable def optN (f:List Bt→Nat→List Bt) (a:Option (List Bt)) (b:Option Nat):Option V:=match a with
 | some a=>(match b with | some b=>(match fitN a b with | true=>some (.bv (f a b)) | false=>none) | none=>none)
 | none=>none
noncomputable def pw2 (y:V):Option Nat:=match natOf y with | some m=>isPow2 m | none=>none
noncomputable def bMul (x y:V) (k:Option Nat):Option V:=match k with
 | some n=>optN (fun a n=>shl n a) (bitsOf x) (some n)
 | none=>optN (fun a n=>shl n a) (bitsOf y) (pw2 x)
noncomputable def bvOp (o:Operator) (x y:V):Option V:=match o with
 | .Add=>opt2 (zip2 bAdd) (bitsOf x) (bitsOf y)
 | .BitAnd=>opt2 (zip2 bAnd) (bitsOf x) (bitsOf y)
 | .BitOr=>opt2 (zip2 bOr) (bitsOf x) (bitsOf y)
 | .Mult=>bMul x y (pw2 y)
 | .LShift=>optN (fun a n=>shl n a) (bitsOf x) (natOf y)
 | .RShift=>optN (fun a n=>dropL n a) (bitsOf x) (natOf y)
 | .FloorDiv=>optN (fun a n=>dropL n a) (bitsOf x) (pw2 y)
 | .Mod=>optN (fun a n=>takeL n a) (bitsOf x) (pw2 y)
 | _=>none
noncomputable def beqStr (x y:Str):Bool:=Nat.beq (key x) (key y)
noncomputable def andO (a b:Option Bool):Option Bool:=match a with
 | some x=>(match b with | some y=>some (match x with | true=>y | false=>false) | none=>none)
 | none=>none
noncomputable def orO (a b:Option Bool):Option Bool:=match a with
 | some x=>(match b with | some y=>some (match x with | true=>true | false=>y) | none=>none)
 | none=>none
noncomputable def eqL (f:V→V→Option Bool) (l m:List V):Option Bool:=List.rec (motive:=fun _=>List V→Option Bool)
 (fun m=>match m with | []=>some true | _ :: _=>some false)
 (fun x _ ih m=>match m with
  | []=>some false
  | y :: ys=>andO (f x y) (ih ys)) l m
noncomputable def eqBits (a:List Bt) (b:Option (List Bt)):Option Bool:=match b with
 | some b=>(match beqBts a b with | true=>some true | false=>none)
 | none=>none
noncomputable def eqTup (f:V→V→Option Bool) (a:List V) (y:V):Option Bool:=match y with
 | .tup b=>eqL f a b
 | .none=>some false
 | .int _=>some false
 | .str _=>some false
 | _=>none
noncomputable def eqInt (a:Int) (y:V):Option Bool:=match y with
 | .int b=>some (beqI a b)
 | .none=>some false
 | .tup _=>some false
 | .str _=>some false
 | .bv b=>(match a with | .ofNat n=>eqBits b (bitsN n) | .negSucc _=>none)
 | _=>none
noncomputable def eqStr (a:Str) (y:V):Option Bool:=match y with
 | .str b=>some (beqStr a b)
 | .none=>some false
 | .tup _=>some false
 | .int _=>some false
 | _=>none
noncomputable def eqNone (y:V):Option Bool:=match y with
 | .none=>some true
 | .int _=>some false
 | .str _=>some false
 | .tup _=>some false
 | _=>none
noncomputable def eqBv (a:List Bt) (y:V):Option Bool:=match y with
 | .bv b=>eqBits a (some b)
 | .int n=>(match n with | .ofNat n=>eqBits a (bitsN n) | .negSucc _=>none)
 | _=>none
noncomputable def eqOpq (i:Nat) (y:V):Option Bool:=match y with
 | .opq j=>(match Nat.beq i j with | true=>some true | false=>none)
 | _=>none
noncomputable def eqS (f:V→V→Option Bool) (x y:V):Option Bool:=match x with
 | .none=>eqNone y
 | .bool a=>(match y with | .bool b=>some (match a,b with | true,true=>true | false,false=>true | _,_=>false) | _=>none)
 | .int a=>eqInt a y
 | .str a=>eqStr a y
 | .tup a=>eqTup f a y
 | .bv a=>eqBv a y
 | .opq i=>eqOpq i y
 | _=>none
noncomputable def eqF (n:Nat):V→V→Option Bool:=Nat.rec (fun _ _=>none) (fun _ ih=>eqS ih) n
noncomputable def eqV:V→V→Option Bool:=eqF 6
noncomputable def notO:Option Bool→Option Bool
 | some b=>some (match b with | true=>false | false=>true)
 | none=>none
noncomputable def notB (b:Bool):Bool:=match b with | true=>false | false=>true
noncomputable def ltI (a b:Int):Bool:=match a with
 | .ofNat a=>(match b with | .ofNat b=>Nat.ble (a + 1) b | .negSucc _=>false)
 | .negSucc a=>(match b with | .ofNat _=>true | .negSucc b=>Nat.ble (b + 1) a)
noncomputable def leI (a b:Int):Bool:=notB (ltI b a)
noncomputable def mS (a:Str) (y:V):Option Bool:=match y with | .str b=>some (beqStr b a) | _=>none
noncomputable def mI (a:Int) (y:V):Option Bool:=match y with | .int b=>some (beqI b a) | _=>none
noncomputable def inS (a:Str) (l:List V):Option Bool:=List.rec (some false) (fun y _ ih=>orO (mS a y) ih) l
noncomputable def inI (a:Int) (l:List V):Option Bool:=List.rec (some false) (fun y _ ih=>orO (mI a y) ih) l
noncomputable def inL (x:V) (l:List V):Option Bool:=match x with
 | .str a=>inS a l
 | .int a=>inI a l
 | _=>none
noncomputable def hasB (x:Option V):Option Bool:=match x with | some _=>some true | none=>some false
noncomputable def inC (x y:V) (σ:St):Option Bool:=match y with
 | .tup l=>inL x l
 | .loc n=>match σ.at n with
  | some o=>(match o with
   | .edict=>(match x with | .str _=>some false | .int _=>some false | _=>none)
   | .sdict m=>(match x with | .str a=>hasB (lk m (key a)) | _=>none)
   | .idict m=>(match x with | .int a=>hasB (lkI m a) | _=>none)
   | _=>none)
  | none=>none
 | _=>none
noncomputable def int2 (f:Int→Int→Bool) (x y:V):Option Bool:=match x with
 | .int a=>(match y with | .int b=>some (f a b) | _=>none)
 | _=>none
noncomputable def isN (x y:V):Option Bool:=match y with
 | .none=>(match x with | .none=>some true | .opq _=>none | _=>some false)
 | _=>none
noncomputable def eqTop (x y:V):Option Bool:=match x with | .opq _=>none | _=>eqV x y
noncomputable def hitsD (xs ys:List (Nat×V)):Option Bool:=List.rec (some true) (fun p _ ih=>match lk ys p.1 with | none=>some false | some y=>andO (eqF 5 p.2 y) ih) xs
noncomputable def dictO (o:Option O) (f:List (Nat×V)→Option Bool):Option Bool:=match o with | some o=>(match o with | .sdict xs=>f xs | _=>none) | none=>none
noncomputable def eqDD (o p:Option O):Option Bool:=dictO o fun xs=>dictO p fun ys=>match Nat.beq (len xs) (len ys) with | true=>hitsD xs ys | false=>some false
noncomputable def neT (x y:V) (σ:St):Option Bool:=match x with
 | .loc n=>(match y with | .loc m=>notO (eqDD (σ.at n) (σ.at m)) | _=>none)
 | _=>notO (eqTop x y)
noncomputable def cmpV (o:CmpOp) (x y:V) (σ:St):Option Bool:=match o with
 | .Eq=>eqTop x y
 | .NotEq=>neT x y σ
 | .Lt=>int2 ltI x y
 | .LtE=>int2 leI x y
 | .Gt=>int2 (fun a b=>ltI b a) x y
 | .GtE=>int2 (fun a b=>leI b a) x y
 | .Is=>isN x y
 | .IsNot=>notO (isN x y)
 | .In=>inC x y σ
 | .NotIn=>notO (inC x y σ)
noncomputable def fitsN (n:Nat):Bool:=Nat.ble n 1000000
noncomputable def truthL (l:List V):Option Bool:=match fitsN (len l) with | true=>some (notB (Nat.beq (len l) 0)) | false=>none
noncomputable def hasO (l:List Bt):Bool:=List.rec false (fun b _ ih=>match b with | .o=>true | _=>ih) l
noncomputable def truthB (l:List Bt):Option Bool:=match hasO l with | true=>some true | false=>(match allZ l with | true=>some false | false=>none)
noncomputable def truthV (x:V) (σ:St):Option Bool:=match x with
 | .bv l=>truthB l
 | .none=>some false
 | .bool b=>some b
 | .int i=>some (notB (beqI i 0))
 | .tup l=>truthL l
 | .loc n=>match σ.at n with
  | some o=>(match o with | .list l=>truthL l | _=>none)
  | none=>none
 | _=>none
noncomputable def idxOf (n:Nat) (i:Int):Option Nat:=match i with
 | .ofNat k=>some k
 | .negSucc k=>match Nat.ble (k + 1) n with | true=>some (n - (k + 1)) | false=>none
noncomputable def nth {α:Type} (l:List α) (n:Nat):Option α:=List.rec (motive:=fun _=>Nat→Option α) (fun _=>none) (fun a _ ih n=>Nat.rec (some a) (fun k _=>ih k) n) l n
noncomputable def clampI (n:Nat) (i:Int):Nat:=match i with
 | .ofNat k=>match Nat.ble k n with | true=>k | false=>n
 | .negSucc k=>match Nat.ble (k + 1) n with | true=>n - (k + 1) | false=>0
noncomputable def sliceL (l:List V) (lo hi:Option Int):List V :=
 dropL (match lo with | none=>0 | some i=>clampI (len l) i) (takeL (match hi with | none=>len l | some i=>clampI (len l) i) l)
noncomputable def repL (l:List V) (n:Nat):List V:=Nat.rec [] (fun _ ih=>app l ih) n
end Mine
end
end
section
noncomputable section
namespace Mine
structure Tk where
 tx:Tx
 kept:Nat
 put:V
 kValues:Nat
 kGet:Nat
 kSet:Nat
 kAppend:Nat
 kPop:Nat
 kKind:Nat
 kExc:Nat
 next:Nat
abbrev Kd:=List (Nat×NameKind)
noncomputable def ifB (b x y:Bool):Bool:=match b with | true=>x | false=>y
noncomputable def nthI (l:List V) (k:Int):Option V:=match sm 1000000 k with
 | true=>(match idxOf (len l) k with | some n=>nth l n | none=>none)
 | false=>none
noncomputable def ixL (o:O) (i:V):Option V:=match o with
 | .list l=>(match i with | .int k=>nthI l k | _=>none)
 | .idict m=>(match i with | .int k=>lkI m k | _=>none)
 | .sdict m=>(match i with | .str x=>lk m (key x) | _=>none)
 | _=>none
noncomputable def listOf (u:V) (σ:St):Option (List V):=match u with
 | .loc n=>(match σ.at n with
  | some o=>(match o with | .list xs=>some xs | _=>none)
  | none=>none)
 | _=>none
noncomputable def ixV (u i:V) (σ:St):Option V:=match u with
 | .tup l=>(match i with | .int k=>nthI l k | _=>none)
 | .loc n=>(match σ.at n with | some o=>ixL o i | none=>none)
 | _=>none
noncomputable def attrD (d a:Nat) (σ:St):Option V:=match σ.at d with
 | some o=>(match o with | .attrs m=>lk m a | _=>none)
 | none=>none
noncomputable def plainA (T:Tk) (c a:Nat):Bool:=match T.tx.cls.get c with | some cl=>hasN cl.attrs a | none=>false
noncomputable def notExc (T:Tk) (c:Nat):Bool:=match T.tx.cls.get c with | some cl=>notB' cl.exc | none=>false
noncomputable def attrOf (T:Tk) (u:V) (a:Nat) (σ:St):Option V:=match u with
 | .loc n=>(match σ.at n with
  | some o=>(match o with | .inst c d=>(match ifB (notExc T c) (plainA T c a) false with | true=>attrD d a σ | false=>none) | _=>none)
  | none=>none)
 | _=>none
noncomputable def addLL (o:O) (p:Option O) (κ:List V→Bool):Bool:=match o with
 | .list xs=>(match p with | some q=>(match q with | .list ys=>κ (app xs ys) | _=>false) | none=>false)
 | _=>false
noncomputable def natI (k:Int):Nat:=match k with | .ofNat n=>n | .negSucc _=>0
noncomputable def mulL (o:O) (k:Int) (κ:List V→Bool):Bool:=match o with
 | .list xs=>ifB (sm 1000000 k) (ifB (fitsN (len xs * natI k)) (κ (repL xs (natI k))) false) false
 | _=>false
noncomputable def newL (κ:KX) (σ:St) (l:List V):Bool:=ifB (fitsN (len l)) (κ (.loc σ.nxt) (σ.new (.list l))) false
noncomputable def newT (κ:KX) (σ:St) (l:List V):Bool:=ifB (fitsN (len l)) (κ (.tup l) σ) false
noncomputable def addLoc (o:O) (b:V) (σ:St) (κ:KX):Bool:=match b with
 | .loc m=>addLL o (σ.at m) (newL κ σ)
 | _=>false
noncomputable def mulLoc (o:O) (b:V) (σ:St) (κ:KX):Bool:=match b with
 | .int k=>mulL o k (newL κ σ)
 | _=>false
noncomputable def binLoc (op:Operator) (o:Option O) (b:V) (σ:St) (κ:KX):Bool:=match o with
 | some o=>(match op with | .Add=>addLoc o b σ κ | .Mult=>mulLoc o b σ κ | _=>false)
 | none=>false
noncomputable def retO (κ:KX) (σ:St) (x:Option V):Bool:=match x with | some u=>κ u σ | none=>false
noncomputable def binInt (op:Operator) (i:Int) (b:V) (σ:St) (κ:KX):Bool:=match b with
 | .int j=>(match intOp op i j with | some k=>κ (.int k) σ | none=>false)
 | _=>retO κ σ (bvOp op (.int i) b)
noncomputable def binStr (op:Operator) (x:Str) (b:V) (σ:St) (κ:KX):Bool:=match b with
 | .str y=>(match op with | .Add=>ifB (fitsN (x.cps++y.cps).size) (κ (.str ⟨x.cps++y.cps⟩) σ) false | _=>false)
 | _=>false
noncomputable def binTup (op:Operator) (xs:List V) (b:V) (σ:St) (κ:KX):Bool:=match b with
 | .tup ys=>(match op with | .Add=>newT κ σ (app xs ys) | _=>false)
 | _=>false
noncomputable def binV (op:Operator) (a b:V) (σ:St) (κ:KX):Bool:=match a with
 | .int i=>binInt op i b σ κ
 | .bv _=>retO κ σ (bvOp op a b)
 | .str x=>binStr op x b σ κ
 | .loc n=>binLoc op (σ.at n) b σ κ
 | .tup xs=>binTup op xs b σ κ
 | _=>false
noncomputable def binN (op:Operator) (a b:V) (σ:St) (κ:KX):Bool:=match a with
 | .int i=>binInt op i b σ κ
 | .bv _=>retO κ σ (bvOp op a b)
 | _=>false
noncomputable def andB (a b:Bool):Bool:=match a with | true=>b | false=>false
noncomputable def forkV (u:V) (σ:St) (κ:KB):Bool:=match u with
 | .sb _=>andB (κ true σ) (κ false σ)
 | _=>false
noncomputable def testV (u:V) (σ:St) (κ:KB):Bool:=match truthV u σ with
 | some b=>κ b σ
 | none=>forkV u σ κ
noncomputable def cellV (v:Ve) (x:Nat) (σ:St):Option V:=match lk v.cells x with
 | some n=>(match σ.at n with
  | some o=>(match o with | .cell u=>u | _=>none)
  | none=>none)
 | none=>none
noncomputable def loadK (k:Option NameKind) (x:Nat):Ve→St→Option V:=match k with
 | some k=>(match k with
  | .local=>fun _ σ=>lk σ.cur x
  | .cell=>fun v σ=>cellV v x σ
  | .free=>fun v σ=>cellV v x σ
  | _=>fun _ _=>none)
 | none=>fun _ _=>none
noncomputable def storeC (v:Ve) (x:Nat) (u:V) (σ:St):Option St:=match lk v.cells x with
 | some n=>(match σ.at n with
  | some o=>(match o with | .cell _=>σ.putZ n (.cell (some u)) | _=>none)
  | none=>none)
 | none=>none
noncomputable def storeK (k:Option NameKind) (x:Nat):Ve→V→St→Option St:=match k with
 | some k=>(match k with
  | .local=>fun _ u σ=>some (σ.set x u)
  | .cell=>fun v u σ=>storeC v x u σ
  | _=>fun _ _ _=>none)
 | none=>fun _ _ _=>none
noncomputable def setD (d a:Nat) (w:V) (σ:St):Option St:=match σ.at d with
 | some o=>(match o with
  | .attrs m=>(match fitsN (len m) with | true=>σ.putZ d (.attrs (up m a w)) | false=>none)
  | _=>none)
 | none=>none
noncomputable def setR (n c a:Nat) (w:V) (σ:St):Option St:=(σ.new (.attrs [(a,w)])).putZ n (.exc c σ.nxt)
noncomputable def setAttr (T:Tk) (u:V) (a:Nat) (w:V) (σ:St):Option St:=match u with
 | .loc n=>(match σ.at n with
  | some o=>(match o with | .inst c d=>(match plainA T c a with | true=>setD d a w σ | false=>none) | .exc c d=>(match plainA T c a with | true=>setD d a w σ | false=>none) | .raw c=>(match plainA T c a with | true=>setR n c a w σ | false=>none) | _=>none)
  | none=>none)
 | _=>none
noncomputable def onO (b:Bool) (x:Option St):Option St:=match b with | true=>x | false=>none
noncomputable def setI (n:Nat) (o:O) (i w:V) (σ:St):Option St:=match i with
 | .str x=>(match o with
  | .sdict m=>onO (fitsN (len m)) (σ.putZ n (.sdict (up m (key x) w)))
  | .edict=>σ.putZ n (.sdict [(key x,w)])
  | _=>none)
 | .int x=>(match o with
  | .idict m=>onO (fitsN (len m)) (σ.putZ n (.idict (upI m x w)))
  | .edict=>σ.putZ n (.idict [(x,w)])
  | _=>none)
 | _=>none
noncomputable def setItem (u i w:V) (σ:St):Option St:=match u with
 | .loc n=>(match σ.at n with
  | some o=>setI n o i w σ
  | none=>none)
 | _=>none
noncomputable def putK (σ:St) (n:Nat) (o:O) (κ:St→Bool):Bool:=match σ.putZ n o with | some σ'=>κ σ' | none=>false
noncomputable def getS (m:List (Nat×V)) (vs:List V) (σ:St) (κ:KX):Bool:=match vs with
 | [.str x]=>κ (match lk m (key x) with | some u=>u | none=>.none) σ
 | [.str x,d]=>κ (match lk m (key x) with | some u=>u | none=>d) σ
 | _=>false
noncomputable def getI (m:List (Int×V)) (vs:List V) (σ:St) (κ:KX):Bool:=match vs with
 | [.int x]=>κ (match lkI m x with | some u=>u | none=>.none) σ
 | _=>false
noncomputable def orN (v:Option V):V:=match v with | some u=>u | none=>.none
noncomputable def getO (k:Int) (v:Option V) (vs:List V) (σ:St) (κ:KX):Bool:=match vs with
 | [.int x]=>ifB (beqI x k) (κ (orN v) σ) false
 | _=>false
noncomputable def plainK (x:V):Bool:=match x with | .int _=>true | .str _=>true | _=>false
noncomputable def getE (vs:List V) (σ:St) (κ:KX):Bool:=match vs with
 | [x]=>ifB (plainK x) (κ .none σ) false
 | [x,d]=>ifB (plainK x) (κ d σ) false
 | _=>false
noncomputable def popL (n:Nat) (xs:List V) (vs:List V) (σ:St) (κ:KX):Bool:=match vs with
 | []=>(match revL xs with | u :: rs=>ifB (fitsN (len xs)) (putK σ n (.list (revL rs)) (κ u)) false | []=>false)
 | _ :: _=>false
noncomputable def appendL (n:Nat) (xs:List V) (vs:List V) (σ:St) (κ:KX):Bool:=match vs with
 | [u]=>ifB (fitsN (len xs)) (putK σ n (.list (app xs [u])) (κ .none)) false
 | _=>false
noncomputable def appendA (n:Nat) (vs:List V) (σ:St) (κ:KX):Bool:=match σ.at n with
 | some o=>(match o with | .list xs=>appendL n xs vs σ κ | _=>false)
 | none=>false
noncomputable def popA (n:Nat) (vs:List V) (σ:St) (κ:KX):Bool:=match σ.at n with
 | some o=>(match o with | .list xs=>popL n xs vs σ κ | _=>false)
 | none=>false
noncomputable def getA (n:Nat) (vs:List V) (σ:St) (κ:KX):Bool:=match σ.at n with
 | some o=>(match o with
  | .edict=>getE vs σ κ
  | .sdict m=>getS m vs σ κ
  | .idict m=>getI m vs σ κ
  | .one k v=>getO k v vs σ κ
  | _=>false)
 | none=>false
noncomputable def lenV (u:V) (σ:St):Option Nat:=match u with
 | .tup l=>some (len l)
 | .loc n=>(match σ.at n with
  | some o=>(match o with | .list xs=>some (len xs) | _=>none)
  | none=>none)
 | _=>none
noncomputable def isStr (T:Tk) (u:V) (σ:St):Option Bool:=match u with
 | .str _=>some true
 | .int _=>some false
 | .loc n=>(match σ.at n with
  | some o=>(match o with | .inst c _=>(match notExc T c with | true=>some false | false=>none) | .list _=>some false | .sdict _=>some false | _=>none)
  | none=>none)
 | _=>none
noncomputable def isiV (T:Tk) (u t:V) (σ:St) (κ:KX):Bool:=match t with
 | .ty t=>(match t with | .str=>(match isStr T u σ with | some b=>κ (.bool b) σ | none=>false) | _=>false)
 | _=>false
noncomputable def srtO (o:O) (κ:List V→Bool):Bool:=match o with
 | .edict=>κ []
 | .idict m=>(match m with | [(k,_)]=>κ [.int k] | _=>false)
 | _=>false
noncomputable def srtV (u:V) (σ:St) (κ:KX):Bool:=match u with
 | .loc n=>(match σ.at n with | some o=>srtO o (newL κ σ) | none=>false)
 | _=>false
noncomputable def maxV (vs:List V) (f:Int→Int→Int) (κ:V→Bool):Bool:=match vs with
 | [.int a,.int b]=>κ (.int (f a b))
 | _=>false
noncomputable def one (vs:List V) (f:V→Bool):Bool:=match vs with | [u]=>f u | _=>false
noncomputable def two (vs:List V) (f:V→V→Bool):Bool:=match vs with | [u,w]=>f u w | _=>false
noncomputable def biV (T:Tk) (b:BI) (vs:List V) (σ:St) (κ:KX):Bool:=match b with
 | .len=>one vs fun u=>(match lenV u σ with | some n=>ifB (fitsN n) (κ (.int n) σ) false | none=>false)
 | .max=>maxV vs (fun a b=>match ltI a b with | true=>b | false=>a) (fun u=>κ u σ)
 | .min=>maxV vs (fun a b=>match ltI b a with | true=>b | false=>a) (fun u=>κ u σ)
 | .isinstance=>two vs fun u t=>isiV T u t σ κ
 | .sorted=>one vs fun u=>srtV u σ κ
 | _=>false
noncomputable def tyV (t:TY) (vs:List V) (σ:St) (κ:KX):Bool:=match t with
 | .tuple=>one vs fun u=>(match listOf u σ with | some l=>newT κ σ l | none=>false)
 | _=>false
noncomputable def consP (p:Nat) (u:V) (x:Option (List (Nat×V))):Option (List (Nat×V)):=match x with | some b=>some ((p,u) :: b) | none=>none
noncomputable def bindP (ps:List Nat) (ds:List V):List V→Option (List (Nat×V)):=List.rec (fun us=>match us with | []=>some [] | _=>none)
 (fun p ps ih us=>match us with
  | u :: us=>consP p u (ih us)
  | []=>match Nat.ble (len ps + 1) (len ds) with
   | true=>(match nth ds (len ds - (len ps + 1)) with | some u=>consP p u (ih []) | none=>none)
   | false=>none) ps
noncomputable def lay (ks:Kd) (b:List (Nat×V)):List (Nat×Nat)→St→(List (Nat×Nat)→St→Bool)→Bool:=List.rec (fun cs σ κ=>κ cs σ)
 (fun p _ ih cs σ κ=>match p.2 with
  | .cell=>ih ((p.1,σ.nxt) :: cs) (σ.new (.cell (lk b p.1))) κ
  | _=>ih cs σ κ) ks
noncomputable def isLoc (k:Option NameKind) (p:Nat×V) (r:List (Nat×V)):List (Nat×V):=match k with
 | some k=>(match k with | .local=>p :: r | _=>r)
 | none=>r
noncomputable def locals (kinds:Kd) (b:List (Nat×V)):List (Nat×V):=List.rec [] (fun p _ ih=>isLoc (lk kinds p.1) p ih) b
noncomputable def retF (fl:Fl):V:=match fl with | .ret u=>u | _=>.none
noncomputable def back (σ:St) (κ:KX):KX:=fun u σ'=>κ u { σ' with cur:=σ.cur }
noncomputable def backF (σ:St) (κ:KX):KS:=fun fl σ'=>κ (retF fl) { σ' with cur:=σ.cur }
section
variable (T:Tk) (r:Rc)
noncomputable def callFn (fn:Fn) (d:Nat) (vs:List V) (σ:St) (κ ε:KX):Bool:=match bindP fn.params fn.dflts vs with
 | some b=>lay fn.kinds b [] σ (fun cs σ1=>fn.body.s r ⟨cs,d + 1⟩ { σ1 with cur:=locals fn.kinds b } (backF σ κ) (back σ ε))
 | none=>false
noncomputable def noneK (κ:St→Bool):KX:=fun u σ=>match u with | .none=>κ σ | _=>false
noncomputable def mkInst (a:Nat) (cl:Cl) (d:Nat) (vs:List V) (σ:St) (κ ε:KX):Bool :=
 r (d + 1) (.top cl.init) (.loc (σ.nxt + 1) :: vs) ((σ.new (.attrs [])).new (.inst a σ.nxt)) (noneK (κ (.loc (σ.nxt + 1)))) ε
noncomputable def kindA (u:V) (σ:St):Option V:=match u with
 | .loc n=>(match σ.at n with
  | some o=>(match o with | .inst c d=>(match Nat.beq c T.kExc with | true=>attrD d T.kKind σ | false=>none) | _=>none)
  | none=>none)
 | _=>none
noncomputable def kindK (κ:KX):KX:=fun u σ=>retO κ σ (kindA T u σ)
noncomputable def mkExc (a:Nat) (cl:Cl) (d:Nat) (vs:List V) (σ:St) (κ ε:KX):Bool :=
 ifB (fitsN (len vs)) (r (d + 1) (.top cl.init) (.loc σ.nxt :: vs) (σ.new (.raw a)) (noneK (κ (.loc σ.nxt))) ε) false
noncomputable def keptK (d:Nat) (σ:St) (κ:KX) (c:V):Bool:=r (d + 1) c [] { σ with cur:=[] } (back σ κ) (kindK T (back σ κ))
noncomputable def callTop (a:Nat) (d:Nat) (vs:List V) (σ:St) (κ ε:KX):Bool:=match T.tx.fns.get a with
 | some fn=>callFn r fn d vs σ κ ε
 | none=>(match T.tx.cls.get a with
  | some cl=>(match cl.exc with | true=>mkExc r a cl d vs σ κ ε | false=>mkInst r a cl d vs σ κ ε)
  | none=>false)
variable (cx:Kd→PySem.Expr→C)
noncomputable def kindsOf (sc:Scope):Kd:=List.rec [] (fun p _ ih=>(key p.1,p.2) :: ih) sc.names
noncomputable def callO (o:Option O) (d:Nat) (vs:List V) (σ:St) (κ ε:KX):Bool:=match o with
 | some o=>(match o with
  | .clos cs sc e=>(match vs with | []=>(cx (kindsOf sc) e).x r ⟨cs,d + 1⟩ { σ with cur:=[] } (back σ κ) (back σ ε) | _ :: _=>false)
  | _=>false)
 | none=>false
noncomputable def rowsK (u:V) (σ:St) (b:Bool):Bool:=match u with
 | .loc n=>(match σ.at n with
  | some o=>(match o with | .rows=>ifB (Nat.ble σ.fz n) b false | _=>false)
  | none=>false)
 | _=>false
noncomputable def nextK (σ:St) (κ:KX) (u:V):Bool:=rowsK u σ (κ (.bv (sbs σ.syn 10 0)) { σ with syn:=σ.syn + 1 })
noncomputable def stepC (d:Nat) (f:V) (vs:List V) (σ:St) (κ ε:KX):Bool:=ifB (ifB (Nat.ble 1 d) (Nat.ble d 50) false) (match f with
 | .top a=>ifB (Nat.beq a T.kept) (one vs (keptK T r d σ κ)) (ifB (Nat.beq a T.next) (one vs (nextK σ κ)) (callTop T r a d vs σ κ ε))
 | .loc n=>callO r cx (σ.at n) d vs σ κ ε
 | .bi b=>biV T b vs σ κ
 | .ty t=>tyV t vs σ κ
 | _=>false) false
end
noncomputable def isNil {α β:Type} (l:List α) (x y:β):β:=match l with | []=>x | _ :: _=>y
section
variable (T:Tk) (cx:PySem.Expr→C)
noncomputable def evs (l:List PySem.Expr):Rc→Ve→St→KL→KX→Bool:=List.rec (fun _ _ σ κ _=>κ [] σ)
 (fun e _ ih r v σ κ ε=>(cx e).x r v σ (fun u σ'=>ih r v σ' (fun us σ''=>κ (u :: us) σ'') ε) ε) l
noncomputable def mkC (f:Rc→Ve→St→KX→KX→Bool):C:=⟨f,fun r v σ κ ε=>f r v σ (fun u σ'=>testV u σ' κ) ε⟩
noncomputable def noC:C:=mkC fun _ _ _ _ _=>false
noncomputable def cName (f:Ve→St→Option V):C:=mkC fun _ v σ κ _=>retO κ σ (f v σ)
noncomputable def cVal (u:Option V):C:=match u with
 | some u=>mkC fun _ _ σ κ _=>κ u σ
 | none=>noC
noncomputable def isGlob (k:Option NameKind):Bool:=match k with | some k=>(match k with | .globalImplicit=>true | _=>false) | none=>false
noncomputable def oddName (x:Nat):Bool:=match Nat.beq x (key "__debug__") with | true=>true | false=>Nat.beq x (key "__classdict__")
noncomputable def cNm (ks:Kd) (x:Nat):C:=match isGlob (lk ks x) with
 | true=>cVal (T.tx.glob.get x)
 | false=>(match oddName x with | true=>noC | false=>cName (loadK (lk ks x) x))
noncomputable def constV (c:Const):Option V:=match c with
 | .none=>some .none
 | .bool b=>some (.bool b)
 | .int i=>some (.int i)
 | .str x=>some (.str x)
 | _=>none
noncomputable def cTup (l:List PySem.Expr):C:=mkC fun r v σ κ ε=>evs cx l r v σ (fun us σ'=>newT κ σ' us) ε
noncomputable def cList (l:List PySem.Expr):C:=mkC fun r v σ κ ε=>evs cx l r v σ (fun us σ'=>newL κ σ' us) ε
noncomputable def cEdict (ks:List (Option PySem.Expr)):C:=match ks with
 | []=>mkC fun _ _ σ κ _=>κ (.loc σ.nxt) (σ.new .edict)
 | _ :: _=>noC
noncomputable def noCall (o:PySem.Expr) (c:C):C:=match o with | .Call _ _ _ _=>noC | _=>c
noncomputable def cAttr (o:PySem.Expr) (a:Nat):C:=noCall o <| mkC fun r v σ κ ε=>(cx o).x r v σ (fun u σ'=>retO κ σ' (attrOf T u a σ')) ε
noncomputable def slFin (u:V) (κ:KX) (a b:Option Int) (σ:St):Bool:=match u with
 | .tup l=>ifB (fitsN (len l)) (κ (.tup (sliceL l a b)) σ) false
 | _=>(match listOf u σ with | some l=>ifB (fitsN (len l)) (newL κ σ (sliceL l a b)) false | none=>false)
noncomputable def kInt (f:Int→St→Bool):KX:=fun u σ=>match u with | .int a=>f a σ | _=>false
noncomputable def cOpt (e:Option PySem.Expr) (r:Rc) (v:Ve) (σ:St) (κ:Option Int→St→Bool) (ε:KX):Bool:=match e with
 | none=>κ none σ
 | some e=>(cx e).x r v σ (kInt fun a=>κ (some a)) ε
noncomputable def slK (lo hi:Option PySem.Expr) (r:Rc) (v:Ve) (κ ε:KX) (u:V) (σ:St):Bool :=
 cOpt cx lo r v σ (fun a σ1=>cOpt cx hi r v σ1 (fun b σ2=>slFin u κ a b σ2) ε) ε
noncomputable def cSlc (o:PySem.Expr) (lo hi:Option PySem.Expr):C:=mkC fun r v σ κ ε=>(cx o).x r v σ (slK cx lo hi r v κ ε) ε
noncomputable def cIx (o i:PySem.Expr):C:=mkC fun r v σ κ ε=>(cx o).x r v σ (fun u σ'=>(cx i).x r v σ' (fun j σ''=>retO κ σ'' (ixV u j σ'')) ε) ε
noncomputable def cSub (o i:PySem.Expr):C:=match i with
 | .Slice lo hi st _=>(match st with | none=>cSlc cx o lo hi | some _=>noC)
 | i=>cIx cx o i
noncomputable def isStV (u:V) (σ:St):Bool:=match u with
 | .loc n=>(match σ.at n with
  | some o=>(match o with | .inst c _=>Nat.beq c T.tx.isStore | _=>false)
  | none=>false)
 | _=>false
noncomputable def storeVals (u:V) (σ:St) (f:Nat→List (Int×V)→Bool):Bool:=match attrOf T u T.kValues σ with
 | some w=>(match w with
  | .loc m=>(match σ.at m with
   | some o=>(match o with | .vals xs=>f m xs | _=>false)
   | none=>false)
  | _=>false)
 | none=>false
noncomputable def tup3 (x:V) (f:V→V→V→Bool):Bool:=match x with | .tup l=>(match l with | [a,b,c]=>f a b c | _=>false) | _=>false
noncomputable def isBv (x:V):Bool:=match x with | .bv _=>true | _=>false
noncomputable def sameB (x y:V):Bool:=match x with | .bv a=>(match y with | .bv b=>beqBts a b | _=>false) | _=>false
noncomputable def isI (x:V) (i:Int):Bool:=match x with | .int j=>beqI i j | _=>false
noncomputable def widW (x:V) (f:Nat→Bool):Bool:=match x with | .int i=>(match i with | .ofNat w=>f w | .negSucc _=>false) | _=>false
noncomputable def chkP (u x:V):Bool:=tup3 x fun w a b=>tup3 u fun w' a' b'=>widW w fun n=>andB (isI w' n) (andB (sameB a a') (sameB b b'))
noncomputable def chkA (u x:V):Bool:=tup3 x fun w a b=>tup3 u fun w' a' b'=>widW w fun n=>andB (isI w' n) (andB (isBv a) (andB (isBv b) (andB (isI a' 0) (isI b' (.ofNat (2 ^ n - 1))))))
noncomputable def runG (f:Nat) (r:Rc) (d:Nat) (u:V) (k:Int) (σ:St) (m:Nat) (o:Option V) (chk:V→Bool):Bool :=
 r d (.top f) [u,.int k] { σ.put m (.one k o) with fz:=σ.nxt } (fun u' _=>chk u') (fun _ _=>false)
noncomputable def getK (f:Nat) (r:Rc) (d:Nat) (u:V) (k:Int) (σ:St) (m:Nat) (xs:List (Int×V)) (κ:V→Bool):Bool:=match lkI xs k with
 | some x=>andB (runG f r d u k σ m (some x) fun u'=>chkP u' x) (andB (runG f r d u k σ m none fun u'=>chkA u' x) (κ x))
 | none=>false
noncomputable def normB (x:V) (f:V→Bool):Bool:=match bitsOf x with | some l=>f (.bv l) | none=>false
noncomputable def normV (x:V) (f:V→Bool):Bool:=tup3 x fun w a b=>widW w fun n=>normB a fun a'=>normB b fun b'=>f (.tup [.int (.ofNat n),a',b'])
noncomputable def lacks (d a:Nat) (σ:St):Bool:=match σ.at d with
 | some o=>(match o with | .attrs m=>(match lk m a with | some _=>false | none=>true) | _=>false)
 | none=>false
noncomputable def setK (u:V) (k:Int) (x:V) (κ:KX):KX:=fun new σ=>normV new fun new=>storeVals T u σ fun m xs=>(match lkI xs k with
 | some x2=>ifB (ifB (fitsN (len xs)) (chkP x2 x) false) (putK σ m (.vals (upI xs k new)) fun σ'=>κ (.sb σ.syn) { σ' with syn:=σ.syn + 1 }) false
 | none=>false)
noncomputable def lackU (u:V) (a:Nat) (σ:St):Bool:=match u with
 | .loc n=>(match σ.at n with
  | some o=>(match o with | .inst _ d=>lacks d a σ | _=>false)
  | none=>false)
 | _=>false
noncomputable def getFn (a:Nat):Option Nat:=match T.tx.cls.get T.tx.isStore with | some cl=>lk cl.meths a | none=>none
noncomputable def set4 (r:Rc) (d:Nat) (u:V) (σ:St) (κ ε:KX) (m:Nat) (xs:List (Int×V)) (vs:List V):Bool:=match vs with
 | [.int k,.none,lo,w]=>ifB (ifB (Nat.ble 1 d) (ifB (Nat.ble d 50) (lackU u T.kGet σ) false) false) (match getFn T T.kGet with
  | some g=>getK g r (d + 1) u k σ m xs fun old=>r (d + 1) T.put [old,lo,w] σ (setK T u k old κ) ε
  | none=>false) false
 | _=>false
noncomputable def get1 (f:Nat) (r:Rc) (d:Nat) (u:V) (σ:St) (κ:KX) (m:Nat) (xs:List (Int×V)) (x:V):Bool:=match x with | .int k=>getK f r d u k σ m xs fun x=>κ x σ | _=>false
noncomputable def storeM (f a:Nat) (r:Rc) (d:Nat) (u:V) (vs:List V) (σ:St) (κ ε:KX):Bool:=ifB (isStV T u σ) (storeVals T u σ fun m xs =>
 ifB (Nat.beq a T.kGet) (one vs (get1 f r d u σ κ m xs)) (ifB (Nat.beq a T.kSet) (set4 T r d u σ κ ε m xs vs) false)) false
noncomputable def ownC (c a f:Nat) (r:Rc) (v:Ve) (u:V) (κ ε:KX) (vs:List V) (σ:St):Bool:=match Nat.beq c T.tx.isStore with
 | true=>storeM T f a r v.dep u vs σ κ ε
 | false=>r v.dep (.top f) (u :: vs) σ κ ε
noncomputable def ownM (c a:Nat) (args:List PySem.Expr) (r:Rc) (v:Ve) (u:V) (σ:St) (κ ε:KX):Bool:=match T.tx.cls.get c with
 | some cl=>(match lk cl.meths a with
  | some f=>evs cx args r v σ (fun vs σ1=>ownC T c a f r v u κ ε vs σ1) ε
  | none=>false)
 | none=>false
noncomputable def methK (a:Nat) (args:List PySem.Expr) (r:Rc) (v:Ve) (σ:St) (κ ε:KX) (u:V) (n:Nat) (o:O):Bool:=match o with
 | .inst c d=>ifB (ifB (notExc T c) (lacks d a σ) false) (ownM T cx c a args r v u σ κ ε) false
 | .list _=>ifB (Nat.beq a T.kAppend) (evs cx args r v σ (fun vs σ1=>appendA n vs σ1 κ) ε) (ifB (Nat.beq a T.kPop) (evs cx args r v σ (fun vs σ1=>popA n vs σ1 κ) ε) false)
 | .edict=>ifB (Nat.beq a T.kGet) (evs cx args r v σ (fun vs σ1=>getA n vs σ1 κ) ε) false
 | .sdict _=>ifB (Nat.beq a T.kGet) (evs cx args r v σ (fun vs σ1=>getA n vs σ1 κ) ε) false
 | .idict _=>ifB (Nat.beq a T.kGet) (evs cx args r v σ (fun vs σ1=>getA n vs σ1 κ) ε) false
 | .one _ _=>ifB (Nat.beq a T.kGet) (evs cx args r v σ (fun vs σ1=>getA n vs σ1 κ) ε) false
 | _=>false
noncomputable def callM (a:Nat) (args:List PySem.Expr) (r:Rc) (v:Ve) (κ ε:KX) (u:V) (σ:St):Bool:=match u with
 | .loc n=>(match σ.at n with | some o=>methK T cx a args r v σ κ ε u n o | none=>false)
 | _=>false
noncomputable def noStar (l:List PySem.Expr):Bool:=List.rec true (fun e _ ih=>match e with | .Starred _ _=>false | _=>ih) l
noncomputable def onC (b:Bool) (c:C):C:=match b with | true=>c | false=>noC
noncomputable def cMeth (o:PySem.Expr) (a:Nat) (args:List PySem.Expr):C:=noCall o <| mkC fun r v σ κ ε=>(cx o).x r v σ (callM T cx a args r v κ ε) ε
noncomputable def cFn (f:PySem.Expr) (args:List PySem.Expr):C:=mkC fun r v σ κ ε=>(cx f).x r v σ (fun g σ'=>evs cx args r v σ' (fun vs σ''=>r v.dep g vs σ'' κ ε) ε) ε
noncomputable def cCall (f:PySem.Expr) (args:List PySem.Expr) (pos:Pos):C:=onC (noStar args) (match f with
 | .Attribute o a p=>onC (ifB (Nat.beq p.endLine pos.line) (Nat.ble (len args) 29) false) (cMeth T cx o (key a) args)
 | f=>cFn cx f args)
noncomputable def isNx (f:Option V):Bool:=match f with | some f=>(match f with | .top a=>Nat.beq a T.next | _=>false) | none=>false
noncomputable def isNext (ks:Kd) (f:PySem.Expr):Bool:=match f with
 | .Name x _=>(match isGlob (lk ks (key x)) with | true=>isNx T (T.tx.glob.get (key x)) | false=>false)
 | _=>false
noncomputable def forkN (n:Nat) (f:Nat→Bool):Bool:=Nat.rec true (fun i ih=>andB (f i) ih) n
noncomputable def okDep (d:Nat):Bool:=ifB (Nat.ble 1 d) (Nat.ble d 50) false
noncomputable def cBin (o:Operator) (a b:PySem.Expr):C:=mkC fun r v σ κ ε=>(cx a).x r v σ (fun x σ'=>(cx b).x r v σ' (fun y σ''=>binV o x y σ'' κ) ε) ε
noncomputable def cNM (x:PySem.Expr) (k:Nat):C:=mkC fun r v σ κ ε=>ifB (okDep v.dep) ((cx x).x r v σ (fun u σ'=>rowsK u σ' (forkN k fun j=>κ (.int j) σ')) ε) false
noncomputable def posS (k:Int):Bool:=match k with | .ofNat n=>ifB (Nat.ble 1 n) (Nat.ble n 1000) false | .negSucc _=>false
noncomputable def cNMk (x b:PySem.Expr):C:=match b with
 | .Constant c _ _=>(match c with | .int k=>(match posS k with | true=>cNM cx x (natI k) | false=>noC) | _=>noC)
 | _=>noC
noncomputable def cBinN (ks:Kd) (o:Operator) (a b:PySem.Expr):C:=match o with
 | .Mod=>(match a with
  | .Call f args kws _=>(match isNext T ks f with
   | true=>(match args with | [x]=>isNil kws (onC (noStar [x]) (cNMk cx x b)) noC | _=>noC)
   | false=>cBin cx o a b)
  | _=>cBin cx o a b)
 | _=>cBin cx o a b
noncomputable def cNot (a:PySem.Expr):C:=⟨fun r v σ κ ε=>(cx a).x r v σ (fun x σ'=>testV x σ' (fun b σ''=>κ (.bool (notB b)) σ'')) ε,
 fun r v σ κ ε=>(cx a).t r v σ (fun b σ'=>κ (notB b) σ') ε⟩
noncomputable def cUn (o:UnaryOp) (a:PySem.Expr):C:=match o with
 | .USub=>mkC fun r v σ κ ε=>(cx a).x r v σ (kInt fun i σ'=>κ (.int (-i)) σ') ε
 | .Not=>cNot cx a
 | _=>noC
noncomputable def cmpK (κ:KB) (σ:St) (c:Option Bool):Bool:=match c with | some c=>κ c σ | none=>false
noncomputable def cCmp1 (o:CmpOp) (a b:PySem.Expr):C :=
 ⟨fun r v σ κ ε=>(cx a).x r v σ (fun x σ'=>(cx b).x r v σ' (fun y σ''=>cmpK (fun c σ3=>κ (.bool c) σ3) σ'' (cmpV o x y σ'')) ε) ε,
 fun r v σ κ ε=>(cx a).x r v σ (fun x σ'=>(cx b).x r v σ' (fun y σ''=>cmpK κ σ'' (cmpV o x y σ'')) ε) ε⟩
noncomputable def cCmp (a:PySem.Expr) (os:List CmpOp) (bs:List PySem.Expr):C:=match os with
 | [o]=>(match bs with | [b]=>cCmp1 cx o a b | _=>noC)
 | _=>noC
noncomputable def boolK (op:PySem.BoolOp) (κ:KX) (go:St→Bool) (u:V) (b:Bool) (σ:St):Bool:=match op with
 | .And=>(match b with | true=>go σ | false=>κ u σ)
 | .Or=>(match b with | true=>κ u σ | false=>go σ)
noncomputable def boolV (op:PySem.BoolOp) (l:List PySem.Expr):Rc→Ve→St→KX→KX→Bool:=List.rec (fun _ _ _ _ _=>false)
 (fun e es ih r v σ κ ε=>match es with
  | []=>(cx e).x r v σ κ ε
  | _ :: _=>(cx e).x r v σ (fun u σ'=>testV u σ' (boolK op κ (fun σ''=>ih r v σ'' κ ε) u)) ε) l
noncomputable def allK (op:PySem.BoolOp) (κ:KB) (go:St→Bool) (b:Bool) (σ:St):Bool:=match op with
 | .And=>(match b with | true=>go σ | false=>κ false σ)
 | .Or=>(match b with | true=>κ true σ | false=>go σ)
noncomputable def isAnd (op:PySem.BoolOp):Bool:=match op with | .And=>true | .Or=>false
noncomputable def allT (op:PySem.BoolOp) (l:List PySem.Expr):Rc→Ve→St→KB→KX→Bool:=List.rec (fun _ _ σ κ _=>κ (isAnd op) σ)
 (fun e _ ih r v σ κ ε=>(cx e).t r v σ (allK op κ fun σ'=>ih r v σ' κ ε) ε) l
noncomputable def cBool (op:PySem.BoolOp) (l:List PySem.Expr):C:=⟨boolV cx op l,allT cx op l⟩
noncomputable def cIf (t a b:PySem.Expr):C :=
 ⟨fun r v σ κ ε=>(cx t).t r v σ (fun c σ'=>match c with | true=>(cx a).x r v σ' κ ε | false=>(cx b).x r v σ' κ ε) ε,
 fun r v σ κ ε=>(cx t).t r v σ (fun c σ'=>match c with | true=>(cx a).t r v σ' κ ε | false=>(cx b).t r v σ' κ ε) ε⟩
noncomputable def isNoArgs (a:Arguments):Bool:=match a with | ⟨[],[],none,[],[],none,[]⟩=>true | _=>false
noncomputable def capt (cells:List (Nat×Nat)) (ns:List (Str×NameKind)):Option (List (Nat×Nat)):=List.rec (some []) (fun p _ ih=>match p.2 with
 | .free=>(match lk cells (key p.1) with | some n=>(match ih with | some r=>some ((key p.1,n) :: r) | none=>none) | none=>none)
 | _=>ih) ns
noncomputable def lamK (σ:St) (sc:Scope) (body:PySem.Expr) (κ:KX) (cs:Option (List (Nat×Nat))):Bool:=match cs with
 | some cs=>κ (.loc σ.nxt) (σ.new (.clos cs sc body))
 | none=>false
noncomputable def cLam (args:Arguments) (body:PySem.Expr) (sc:Scope):C:=onC (isNoArgs args) (onC (okSc sc) (mkC fun _ v σ κ _=>ifB (Nat.beq v.dep 1) (lamK σ sc body κ (capt v.cells sc.names)) false))
noncomputable def isRng (u:Option V):Bool:=match u with | some u=>(match u with | .ty t=>(match t with | .range=>true | _=>false) | _=>false) | none=>false
noncomputable def isRange (ks:Kd) (f:PySem.Expr):Bool:=match f with
 | .Name x _=>(match isGlob (lk ks (key x)) with | true=>isRng (T.tx.glob.get (key x)) | false=>false)
 | _=>false
noncomputable def rangeL (lo:Int) (n:Nat):List V:=Nat.rec (motive:=fun _=>Int→List V) (fun _=>[]) (fun _ ih i=>.int i :: ih (i + 1)) n lo
noncomputable def rangeOf (vs:List V) (f:List V→Bool):Bool:=match vs with
 | [.int k]=>ifB (sm 1000000 k) (f (rangeL 0 (natI k))) false
 | _=>false
noncomputable def isLocK (k:Option NameKind):Bool:=match k with | some k=>(match k with | .local=>true | _=>false) | none=>false
noncomputable def allLoc (sc:Scope):Bool:=List.rec true (fun p _ ih=>match p.2 with | .local=>(match isLocK (lk (kindsOf sc) (key p.1)) with | true=>ih | false=>false) | _=>ih) sc.names
noncomputable def okComp (sc:Scope) (x:Nat):Bool:=ifB (isFun sc.kind) (ifB (noCells sc.names) (ifB (allLoc sc) (isLocK (lk (kindsOf sc) x)) false) false) false
noncomputable def rel1 (k:NameKind) (o:Option NameKind):NameKind:=match k with | .free=>(match o with | some o=>(match o with | .cell=>.cell | _=>.free) | none=>.free) | k=>k
noncomputable def relK (ks:Kd) (ns:List (Str×NameKind)):Kd:=List.rec [] (fun p _ ih=>(key p.1,rel1 p.2 (lk ks (key p.1))) :: ih) ns
noncomputable def noE:KX:=fun _ _=>false
noncomputable def accL (inner:C) (x n:Nat) (l:List V):Rc→Ve→St→(St→Bool)→Bool:=List.rec (fun _ _ σ κ=>κ σ)
 (fun u _ ih r v σ κ=>inner.x r v (σ.set x u) (fun w σ'=>appendA n [w] σ' (fun _ σ''=>ih r v σ'' κ)) noE) l
noncomputable def accD (inner:C) (x n:Nat) (l:List V):Rc→Ve→St→(St→Bool)→Bool:=List.rec (fun _ _ σ κ=>κ σ)
 (fun u _ ih r v σ κ=>inner.x r v (σ.set x u) (fun w σ'=>match setItem (.loc n) u w σ' with | some σ''=>ih r v σ'' κ | none=>false) noE) l
noncomputable def compVe (v:Ve) (sc:Scope) (f:Ve→Bool):Bool:=ifB (ifB (Nat.ble 1 v.dep) (Nat.ble v.dep 50) false) (match capt v.cells sc.names with | some cs=>f ⟨cs,v.dep + 1⟩ | none=>false) false
noncomputable def compEnd (κ:KX) (n:Nat) (σ1:St) (σ2:St):Bool:=κ (.loc n) { σ2 with cur:=σ1.cur }
noncomputable def goL (inner:C) (x:Nat) (r:Rc) (v':Ve) (κ:KX) (l:List V) (σ1:St):Bool:=accL inner x σ1.nxt l r v' { (σ1.new (.list [])) with cur:=[] } (compEnd κ σ1.nxt σ1)
noncomputable def goD (inner:C) (x:Nat) (r:Rc) (v':Ve) (κ:KX) (l:List V) (σ1:St):Bool:=accD inner x σ1.nxt l r v' { (σ1.new .edict) with cur:=[] } (compEnd κ σ1.nxt σ1)
noncomputable def cComp (inner:C) (x:Nat) (sc:Scope) (args:List PySem.Expr):C:=mkC fun r v σ κ ε=>compVe v sc fun v'=>evs cx args r v σ (fun vs σ1=>rangeOf vs fun l=>goL inner x r v' κ l σ1) ε
noncomputable def cDComp (inner:C) (x:Nat) (sc:Scope) (it:PySem.Expr):C:=mkC fun r v σ κ ε=>compVe v sc fun v'=>(cx it).x r v σ (fun u σ1=>match u with
 | .tup l=>goD inner x r v' κ l σ1
 | _=>false) ε
noncomputable def isSet (e:PySem.Expr):Bool:=match e with | .Set _ _ _=>true | _=>false
set_option backward.match.sparseCases true in
noncomputable def cListC (ks:Kd) (inner:C) (sc:Scope) (gs:List Comprehension):C:=match gs with
 | [⟨.Name x _,.Call f args [] _,[],a⟩]=>onC (beqI a 0) (onC (okComp sc (key x)) (onC (noStar args) (onC (isRange T ks f) (cComp cx inner (key x) sc args))))
 | _=>noC
set_option backward.match.sparseCases true in
noncomputable def cDictC (kx:PySem.Expr) (inner:C) (sc:Scope) (gs:List Comprehension):C:=match kx with
 | .Name kx _=>(match gs with
  | [⟨.Name x _,it,[],a⟩]=>onC (beqI a 0) (onC (okComp sc (key x)) (onC (Nat.beq (key kx) (key x)) (onC (notB (isSet it)) (onC (notB (oddName (key x))) (cDComp cx inner (key x) sc it)))))
  | _=>noC)
 | _=>noC
end
noncomputable def stepX (T:Tk) (ih:Kd→PySem.Expr→C) (ks:Kd) (e:PySem.Expr):C:=match e with
 | .Name x _=>cNm T ks (key x)
 | .Constant c _ _=>cVal (constV c)
 | .Tuple l _ _=>cTup (ih ks) l
 | .List l _=>cList (ih ks) l
 | .Dict kys vs _=>isNil vs (cEdict kys) noC
 | .Attribute o a _=>cAttr T (ih ks) o (key a)
 | .Subscript o i _=>cSub (ih ks) o i
 | .Call f args kws p=>isNil kws (cCall T (ih ks) f args p) noC
 | .BinOp a o b _=>cBinN T (ih ks) ks o a b
 | .UnaryOp o a _=>cUn (ih ks) o a
 | .Compare a os bs _=>cCmp (ih ks) a os bs
 | .BoolOp op l _=>cBool (ih ks) op l
 | .IfExp t a b _=>cIf (ih ks) t a b
 | .Lambda args body sc _=>cLam args body sc
 | .ListComp elt gs sc _=>cListC T (ih ks) ks (ih (relK ks sc.names) elt) sc gs
 | .DictComp kx val gs sc _=>cDictC (ih ks) kx (ih (relK ks sc.names) val) sc gs
 | _=>noC
noncomputable def compX (T:Tk) (n:Nat):Kd→PySem.Expr→C:=Nat.rec (fun _ _=>noC) (fun _ ih ks e=>stepX T ih ks e) n
section
variable (T:Tk) (cx:PySem.Expr→C) (ks:Kd)
noncomputable def store1 (t:PySem.Expr) (v:Ve) (u:V) (σ:St):Option St:=match t with
 | .Name x _=>storeK (lk ks (key x)) (key x) v u σ
 | _=>none
noncomputable def storeVs (ts:List PySem.Expr):Ve→List V→St→Option St:=List.rec (fun _ us σ=>match us with | []=>some σ | _ :: _=>none)
 (fun t _ ih v us σ=>match us with
  | []=>none
  | u :: us=>match store1 ks t v u σ with | some σ'=>ih v us σ' | none=>none) ts
structure CT where
 a:Rc→Ve→V→St→(St→Bool)→KX→Bool
noncomputable def stO (κ:St→Bool) (x:Option St):Bool:=match x with | some σ=>κ σ | none=>false
noncomputable def tupOf (u:V) (f:List V→Bool):Bool:=match u with | .tup us=>f us | _=>false
noncomputable def asgC (t:PySem.Expr):CT:=match t with
 | .Name x _=>⟨fun _ v u σ κ _=>stO κ (storeK (lk ks (key x)) (key x) v u σ)⟩
 | .Tuple ts _ _=>⟨fun _ v u σ κ _=>tupOf u fun us=>stO κ (storeVs ks ts v us σ)⟩
 | .Attribute e a _=>⟨fun r v u σ κ ε=>(cx e).x r v σ (fun o σ'=>stO κ (setAttr T o (key a) u σ')) ε⟩
 | .Subscript e i _=>⟨fun r v u σ κ ε=>(cx e).x r v σ (fun o σ'=>(cx i).x r v σ' (fun j σ''=>stO κ (setItem o j u σ'')) ε) ε⟩
 | _=>⟨fun _ _ _ _ _ _=>false⟩
noncomputable def noS:CS:=⟨fun _ _ _ _ _=>false⟩
noncomputable def sAsg (t:CT) (e:PySem.Expr):CS:=⟨fun r v σ κ ε=>(cx e).x r v σ (fun u σ'=>t.a r v u σ' (κ .next) ε) ε⟩
noncomputable def isTup (t:PySem.Expr):Bool:=match t with | .Tuple _ _ _=>true | .List _ _=>true | _=>false
noncomputable def okVal (t e:PySem.Expr):Bool:=match e with
 | .ListComp _ _ _ _=>false
 | .SetComp _ _ _ _=>false
 | .DictComp _ _ _ _ _=>false
 | .Tuple _ _ _=>notB (isTup t)
 | .List _ _=>notB (isTup t)
 | _=>true
noncomputable def isComp (e:PySem.Expr):Bool:=match e with
 | .ListComp _ _ _ _=>true
 | .SetComp _ _ _ _=>true
 | .DictComp _ _ _ _ _=>true
 | _=>false
noncomputable def sExp (e:PySem.Expr):CS:=match isComp e with | true=>noS | false=>⟨fun r v σ κ ε=>(cx e).x r v σ (fun _ σ'=>κ .next σ') ε⟩
noncomputable def sAsgs (ts:List PySem.Expr) (e:PySem.Expr):CS:=match ts with
 | [t]=>(match okVal t e with | true=>sAsg cx (asgC T cx ks t) e | false=>noS)
 | _=>noS
noncomputable def kSto (k:Option NameKind) (x:Nat) (v:Ve) (κ:KS):KX:=fun u σ=>stO (κ .next) (storeK k x v u σ)
noncomputable def augK (κ:St→V→Bool) (σ:St) (x:Option V):Bool:=match x with | some u=>κ σ u | none=>false
noncomputable def sAug (t:PySem.Expr) (o:Operator) (e:PySem.Expr):CS:=match t with
 | .Name x _=>match oddName (key x) with | true=>noS | false=>⟨fun r v σ κ ε=>augK (fun σ u=>(cx e).x r v σ (fun w σ'=>binN o u w σ' (kSto (lk ks (key x)) (key x) v κ)) ε) σ (loadK (lk ks (key x)) (key x) v σ)⟩
 | _=>noS
noncomputable def sRet (e:Option PySem.Expr):CS:=match e with
 | some e=>⟨fun r v σ κ ε=>(cx e).x r v σ (fun u σ'=>κ (.ret u) σ') ε⟩
 | none=>noS
noncomputable def ssK (κ:KS) (go:St→Bool):KS:=fun fl σ=>match fl with
 | .next=>go σ
 | .ret w=>κ (.ret w) σ
 | .cont=>κ .cont σ
noncomputable def forK (κ:KS) (go:St→Bool):KS:=fun fl σ=>match fl with
 | .ret w=>κ (.ret w) σ
 | _=>go σ
variable (cs:PySem.Stmt→CS)
noncomputable def css (l:List PySem.Stmt):Rc→Ve→St→KS→KX→Bool:=List.rec (fun _ _ σ κ _=>κ .next σ)
 (fun st _ ih r v σ κ ε=>(cs st).s r v σ (ssK κ (fun σ'=>ih r v σ' κ ε)) ε) l
noncomputable def sIf (t:PySem.Expr) (a b:List PySem.Stmt):CS:=⟨fun r v σ κ ε=>(cx t).t r v σ (fun c σ'=>match c with | true=>css cs a r v σ' κ ε | false=>css cs b r v σ' κ ε) ε⟩
noncomputable def forL (bd:Rc→Ve→St→KS→KX→Bool) (t:CT) (l:List V):Rc→Ve→St→KS→KX→Bool:=List.rec (fun _ _ σ κ _=>κ .next σ)
 (fun u _ ih r v σ κ ε=>t.a r v u σ (fun σ'=>bd r v σ' (forK κ (fun σ''=>ih r v σ'' κ ε)) ε) ε) l
noncomputable def nthAt (m i:Nat) (σ:St) (a:Bool) (f:V→Bool):Bool:=match σ.at m with
 | some o=>(match o with | .list xs=>(match nth xs i with | some u=>f u | none=>a) | _=>false)
 | none=>false
noncomputable def forLs (bd:Rc→Ve→St→KS→KX→Bool) (t:CT) (m fuel:Nat):Nat→Rc→Ve→St→KS→KX→Bool:=Nat.rec (fun _ _ _ _ _ _=>false)
 (fun _ ih i r v σ κ ε=>nthAt m i σ (κ .next σ) (fun u=>t.a r v u σ (fun σ'=>bd r v σ' (forK κ (fun σ''=>ih (i + 1) r v σ'' κ ε)) ε) ε)) fuel
noncomputable def forV (bd:Rc→Ve→St→KS→KX→Bool) (t:CT) (u:V) (r:Rc) (v:Ve) (σ:St) (κ:KS) (ε:KX):Bool:=match u with
 | .tup l=>forL bd t l r v σ κ ε
 | .loc m=>forLs bd t m 64 0 r v σ κ ε
 | _=>false
noncomputable def whileL (t:PySem.Expr) (body:List PySem.Stmt) (n:Nat):Rc→Ve→St→KS→KX→Bool:=Nat.rec (fun _ _ _ _ _=>false)
 (fun _ ih r v σ κ ε=>(cx t).t r v σ (fun b σ'=>match b with
   | true=>css cs body r v σ' (forK κ (fun σ''=>ih r v σ'' κ ε)) ε
   | false=>κ .next σ') ε) n
noncomputable def sForI (t e:PySem.Expr) (body:List PySem.Stmt):CS:=⟨fun r v σ κ ε=>(cx e).x r v σ (fun u σ'=>forV (css cs body) (asgC T cx ks t) u r v σ' κ ε) ε⟩
noncomputable def sForR (t:PySem.Expr) (args:List PySem.Expr) (body:List PySem.Stmt):CS:=⟨fun r v σ κ ε=>evs cx args r v σ (fun vs σ'=>rangeOf vs fun l=>forL (css cs body) (asgC T cx ks t) l r v σ' κ ε) ε⟩
noncomputable def sFor (t e:PySem.Expr) (body:List PySem.Stmt):CS:=match e with
 | .Call f args kws _=>(match isRange T ks f with
  | true=>isNil kws (match noStar args with | true=>sForR T cx ks cs t args body | false=>noS) noS
  | false=>sForI T cx ks cs t e body)
 | e=>sForI T cx ks cs t e body
noncomputable def raiseK (ε:KX):KX:=fun u σ=>match u with
 | .loc n=>(match σ.at n with
  | some o=>(match o with
   | .exc c d=>ifB (ifB (Nat.beq c T.kExc) (Nat.ble σ.fz n) false) (ε u (σ.put n (.inst c d))) false
   | _=>false)
  | none=>false)
 | _=>false
noncomputable def sRaise (e c:Option PySem.Expr):CS:=match c with
 | some _=>noS
 | none=>(match e with
  | some e=>⟨fun r v σ _ ε=>(cx e).x r v σ (raiseK T ε) ε⟩
  | none=>noS)
noncomputable def stepS (st:PySem.Stmt):CS:=match st with
 | .Assign ts e _=>sAsgs T cx ks ts e
 | .AugAssign t o e _=>sAug cx ks t o e
 | .Expr e _=>sExp cx e
 | .Return e _=>sRet cx e
 | .If t a b _=>sIf cx cs t a b
 | .For t e body el _=>isNil el (sFor T cx ks cs t e body) noS
 | .While t body el _=>isNil el ⟨whileL cx cs t body 50⟩ noS
 | .Raise e c _=>sRaise T cx e c
 | .Continue _=>⟨fun _ _ σ κ _=>κ .cont σ⟩
 | .Pass _=>⟨fun _ _ σ κ _=>κ .next σ⟩
 | _=>noS
end
noncomputable def compS (T:Tk) (ks:Kd) (n:Nat):PySem.Stmt→CS:=Nat.rec (fun _=>noS) (fun _ ih st=>stepS T (compX T 40 ks) ks ih st) n
noncomputable def runC (T:Tk) (n:Nat):Rc:=Nat.rec (fun _ _ _ _ _ _=>false) (fun _ r=>stepC T r (compX T 40)) n
end Mine
end
end
section
noncomputable section
namespace Mine
open PySem PySem.W
noncomputable def pw:Program:=PySem.Challenge.pw_ok0101_01
noncomputable def defAt (i:Nat):Option PySem.Stmt:=nth pw.main.body i
noncomputable def methAt (i j:Nat):Option PySem.Stmt:=match defAt i with
 | some (.ClassDef _ _ _ b _ _ _ _ _ _ _)=>nth b j
 | _=>none
noncomputable def globT:Tr V:=(.n (.n (.n (.n (.n (.n (.n .e 8343699359066055009355553539724813048100442306642567103978262052036664786496842935138835759104 (.bi .abs) .e) 2135987035920910082395021706171237111269401437343819458389980667046320993536017561754796132663296 (.top 249) .e) 4271974071841820164790043412339105874709966365919347694863265773319462987955573460408943543058432 (.bi .len) (.n .e 136703170298938245273281389194851335437417124263401154911296236810780987565040413530351471043805184 (.top 1530) .e)) 136703170298938245273281389194851387990718923709419126235624504736487259004825548929591512760582144 (.bi .min) (.n (.n (.n .e 546812681195752981093125556779405341543980427388453864375813799422806100030002817463642089215492096 (.bi .max) .e) 17498005798264095394980017816940971028137647115702886189324192534950096877309310089678064564997980160 (.ty .int) .e) 286687326998758938951352611912760874501316970436598927901954467200390853500544441457759902545260568379392 (.ty .str) (.n .e 42307582002575910332922579714105690248376965764723353587757251001518752096076466117633080214123977566821513578610497175945216 (.top 298) .e))) 5545339388241629719156828368286184494769161518032292310514608517646365125317095250057377759688962051802818825883865091149603536896 (.top 241) (.n (.n (.n (.n .e 363419362147803445274661903944002269364071405126670954513247326707941035737941309695604636262159310108266858279941289054341447435681792 (.ty .list) .e) 3351951982485649274893506249552122587838631703747050259738923132033926786461803715615642151099793342506566990121618076623033792242303524823067718544523264 (.top 1467) .e) 1757388200993436087035366604565183247332740538694133486578000531022772308943287981424627131496634008292268417718545046882833969996907792714829304537357505003520 (.top 378) (.n .e 1757388200993436087035366604565183247332740538694133486578000548102324896951502585575445227313332692577529022596489875911329359124154806045286575314139483209728 (.ty .range) .e)) 14059105607947488696282932836524238648356045124412646306808147340362813457432791557477429927914201941911600743589141743888084212301129179818094223637338419888128 (.top 1228) (.n (.n (.n .e 28118211215894977392565865673042931957323848619106135785248008496764854512327778343243100673854620125119989988281915424261959112414066276728415978553845353545728 (.top 1004) .e) 56236422431789954785131731346074773241159661729095946705374767121976887671893364282777102758893624682994627061708524989388035969290410409070001283923147527028736 (.top 270) .e) 1799565517817278553124215403074393436715302377524481547843848264952364061676802237355041456256356751743202706370229229349669535283675578854670159221574333710204928 (.top 1074) (.n .e 3599131035634557106248430806148785530418721665279265487393326085342240827018886879661526709571212576068289216287866972737249962001767255655364370871690437997887488 (.top 1018) .e)))) 28793048285076456849987446449201640751833180414797099636343087975309778340362472272176039243871380466275096299086014697321922299713404854321067458090368248422858752 (.top 1298) (.n (.n (.n (.n (.n .e 460688772561223309599799143187226252029330886636753594181489407604956453445799556354816627901942036910501539877926620156497468633638118380642496031643672883471843328 (.top 1242) .e) 943490606205385338060388645247253293442649980468090733988870904508887899785132105396316354698165830749680134434352756340147423661732005755917788951949755145733147721728 (.ty .tuple) .e) 531137992816767098689588206552468831916506111235898799023800189935437486987257107109055279236576681142161120478305874412284149523360955635044890049310678278535828851553241805203963904 (.top 185) (.n .e 8498207885068273579033411304839511130835921468199990823949893562919063873732357490580464721457346858856272688918288726848404976720954803166908554581306859730561341372645005041996922880 (.top 80) .e)) 556938551955834377275533643274181016895879612524619646726350984563542955751989767968282310058729763313106605955332493645269111669670286409285860847395690160139661655407054375943035949154304 (.top 1025) (.n (.n (.n .e 570305077202774402330146450712648888456517143315640254785091214284558059641083435794393381579414414443667283198895095921242336965072938704210747324926740712008218984072157208816091009113915392 (.top 780) .e) 18687756769780511615554238896948393379235508829270011045915835245487158914182137051552762016147988332042112304909608169173075482591651197908943257490817055036344143859645327167497366310046335500288 (.top 1291) .e) 37375513539561023231108477793911528574247287077287396523886730537664433926850165703096374555298396273379894163955297884298813501882761696722975983502288439499885643643572101401360120127448871337984 (.top 326) (.n .e 19136262932255243894327540630477041686377378671542784688358524001181886730884960579029705969110452200119195941549077396136799961826756125594284654994928963817870752783483962553336256090239011225862144 (.top 122) .e))) 19136262932255243894327540630482702630014610983571147020230007520942542630767769122803207095393482695138418250162167256672256390229357044242157773829524500892784224551969521890268141945054019341778944 (.bi .sorted) (.n (.n (.n (.n .e 689456532887748412341164024978746179574512397383217229985767736859264811847925902617872284180653268744196037345209289709333962895443568725695789703837341990069026125065185512012108027458112631206888717527374226259968 (.int 65536) .e) 740298315191606967520227188330889971065885735515094956834874861955760760108225474912071857798369390363011249449722022132181163205190898500028994622106269667966773476161261788401739614409923077660917675067660060132504116396032 (.top 421) .e) 1876879207201175057492789423877314938275513327691055103141338452217967177902102961573235481274111253397071298179814696880069613171857585599365180317979102891324632406863384666959199305852677616584985273512098479691520902702959362713753487929814040432345088 (.top 903) (.n .e 30750788930784052141961861920811980627731016939456692187359482555206710616433712733638983468254294100281894556178171997903089502552795930393873662143610642876285765205869558384657379705672462746476613034482273085182945075731309809232757124423042244237454213120 (.top 773) .e)) 246006311446272417135694895366447329016538317159331873769918204319232438340568639746525867678884897162189754795251162694525562081638227081666557220921961630828489689018848585065019696416912285081153506339663170062022679806170896209542198094830365217371080097792 (.top 1478) (.n (.n .e 1007641851683931820587806291421067620051582717700267354908133924223417299273193721423701380298631258985921107208374879164351942036405836275960700964541929235207248247872619279366809952221484523319614733715345729382806824545845613899306600306250212961128491358617600 (.top 1102) .e) 33018408195979077897021236557285543773850262493602360685629733070432314293299059928398940400042669914278918686571164555298226102280908461567182218138330770245918386249333116258444781918348485559061437441261838544637705853610434161661413761687520355634797181405937795072 (.top 101) (.n .e 4538015467766671944574165338593120796226151688422020591440590836589652699151965564155786047386659387714982252382488428495798659514218241801496915856396166287485352805201868564924930654357893999772565410645019197281712618481329420205830578970517878064339674972915020718245041668096 (.top 1499) .e))))) 145216494968533502226373290834979865479236854029504658926098895474985415673214847359635057418700339617707782428463345708075829642082431636005420722872281974643289462108589912808968577690309376215585027498484195298167546515937401833365541763593671318143781799883324904834238871764992 (.top 1366) (.n (.n (.n (.n (.n (.n .e 4758454107128905800953799994083435550834434995425047847826225318539981174317036267340065886973049361923089312071284400533747164527971790938897293679635037603550277664763484368300372983729692126551536220702220306778200132471180666751493281364109916624685928500589247231976626220838158336 (.top 305) .e) 609082125712499942522086399242199276761323581729278038760452840596567990922884964295686378984462424441068192804355748743815931669345813191511277638576883634002443562937131254103075268717590788222577004934086408653072050880901677533293383245321333533947580109567522133867124075755657494528 (.top 1492) .e) 2436328502849999770088345596968797092382175520657932018379393988344755891948116335876526336098945914981991951453412211057179499906457462863476978976540458657924574081315505508200363671738478343924879097645439513775130566589364576258714081393552512478170680639282562876859011359530394058752 (.top 1506) (.n .e 77962512091199992642827059103001506956229616661053824588140607627037926938703817846002643344333638199212290810755160405294573893101585779134671729012046826014251715026156748141103297735371933574031148500082336671947426875936854061933270106408210099730847559009999671051478881907940840701952 (.top 1345) .e)) 1247400193459199882285232945648024118807190695381561423381407417547693541563154583954767619295343216720205481886128694251933819479695098484629817501486079336497669879707874624375384762913070251916997761460258181898931779582534187528285049931297688690784216823622100800430710485411511081631744 (.top 28) (.n (.n (.n .e 4989600773836799529140931782592096445198695466307444773640998888130057186215504373493279048239622184594621575200647054814984122599013077228422056927709103927367182071142073726008607491577711241626641922426323255789268780990264168198467185050460837594061735319913554330260361298306571282939904 (.top 1485) .e) 638668899051110339730039268171914296373044894816919889067242837973427422077481402813401419599536774691413494444079956595294210724586766710050932710197697423410308646965481156783550326040775942375776343001982045022849336484304304585932460513194526604286960143374853005744118876570958980400021504 (.top 312) .e) 2615987810513347951534240842431645045807942338970507743069608512340197040418189100094231848633865293899084501001779885570549367369802150830834901735280124753659861177958520932269011872531054705720926706073640978787836444589527698548874253253444622846724849493747046397369728586661186111462862487552 (.top 997) (.n .e 10715086071862673209484250490602131283738590778040745433577169950333077551947544232568342670504822411847076718513459283279294991597602698127140719416919981618196560260519189912428259203767345130786262942692096896181848756612034134048830467533255181297740063343811600437395365881696732624837303307599872 (.top 1207) .e))) 12650140831706913647030959169932331766732556324321375212567134781990243341323832093237266679707279615629648366295633398370942166181352561982361751911785961488017052387322400758617960235812364932052446351459370212346013738470491647047340205445067965485188345541129001315180955588751550949549943324308105741333988979599474688 (.top 1352) (.n (.n (.n (.n .e 25300281663413827294061918339869652981968418020046905726395261850324442151194007820066958423298326030842378203869895070087214725385304052904246615362956487392309055697228974945067539418390699886642950565552697627761212683037099786429278388688993925461819785264517038076438827362559468993527910163805389057181792135653883904 (.top 1130) .e) 1619218026458484946819962773751338456700994260969386918116254063840542358590404267565117123157327759770159967250968643884754378074735951654686632482775902980554900504369843767404960584153545433464514280022435634657946066718017979196317682293333447289379962192732282573125303274865767673793686307189875757365520564655073787904 (.top 1109) .e) 3238436052916969893639925547502676913401988521938773836232508127681084717180808535130234246314655519540319934501937287769508756149471903309373264965551805961109801008739687534809921168307090866929028560044871269315892133436035958409322763304799004597471031465019503132385537284967018697737064833718021741713869736006710722560 (.top 1011) (.n .e 25907488423335759149119404380021415614193299534610161720991610239517111289621871046386227466346382443512564583321424922413412981826032967528708611761609105770204923641756151493649045762284784296452687347603394823551743708962268932901410831514950638517657261739876652050690899548872575364692090238655535336939973661905945362432 (.top 1270) .e)) 51814976846671518298238808760053049307071320105056062927657504329615245751314803049404682637198358581242641074494782560054640460394240736868976554971081804624956547111230129073760080142974034374312894157462705786686559961408959553681090357048328758068708863698133549101345521795164304581983853842897608463762017634939574419456 (.bi .isinstance) (.n (.n (.n .e 14242792383964888162918480513432465387850748790205781081719045461645403234281645896068531435280718496770204159324810342266906189130033287601372426848415992731499655732797753797162785258462862903582398375534819801330920187837055571538760541690062747678141020108782946913191059254481548100603741273802681465303637933759783625909394416336896 (.top 801) .e) 233353910418880727661256384732077515723442191401100123069924201451450512702581157258304383115504679300625448879340308282377207443991947635137001908299035171193592603532521500553860743234225976165196522988636702413148903291590870441457503261851515294235830497375599381303908434599013280704917408169011857801237426804773638900563570998925852672 (.top 220) .e) 14934650266808366570320408622855905987193831695590450024238701796675296034767347959216417323652721482492412964225932551923268768494725653740682926892729802696680447579281341352866776448538724984502574828971340380638798344263674067241224938942294007578347657031160901915498554642670778539619676862940962029913003437264667286432824107363286908928 (.top 1338) (.n .e 125280926705350798278722342336958035811422074112283613796928948310651089765043381675841639405561104178348074541053408575727030713623967710332370980189532902959746948714978494773939007670149141820669349036120160646728903269401094262109961177344253713113867777845911363755305504201835618536873812270651477607705416383283378854104613807230295207535706112 (.top 1137) .e)))) 2052602703140467478998586856848315654613776302142817952081342025268485269784589303353279957029047847357602513831794714822027165252496991155184382286255174924801916558804966784118497332642270333670905083676903403177664457339842013755193964227884233658883092739284564386159098970825211806028430660187618734297564202195746998722246984780754863503983991848960 (.top 1277) (.n (.n (.n (.n (.n .e 32841643250247479663977389709573050665302044751723721538945873902450850524317345470664394688216298128636273430599489101930443674075765972015565571203223228483981184026246499565088079595647653973127534977222523662286534045053961270197174610709870070629137577791779527886255026859630205237757072653150383568453350610978077379846791789714070709655254868164608 (.top 990) .e) 32841643250247479663977389709586004211855262135877755506277150134429010664578543715815617486165963525858708660146393581999778063805150082227590551725926861182161511450664749490363505784164601241987805580254835878742170954296948787903816371768412218456849146767503040406545742974455032156972010303991549031957049517725499208678787615400849481282307854696448 (.top 1525) .e) 33629842688253419175912847062602803881269293825765090855880574875950008584795189877027370520381704662599832672735101736594658031908188925288974016385385953831844403858560627488037296338375579167325750716677247403583104950707145187507249350170682761323186001120267954235883543786461772110431274565279333359898875863293463963909709667252876486610908770379759616 (.top 1284) (.n .e 38772568831832703508158178356916422933420327239575616937252915618274646767220912901569668984154327089036579816050189083129957891158071052963419466165260871255693860444199488466249637386959793664863038652133211564209079806682609564717519399043540521032248750622735011526243670772933854337531399114175026236048561529148126998147645375853680673402864363957566185685370290988646400 (.top 1511) .e)) 41631728778657596327700961309456342405022902399768415778721134075530503861537589416616185360787195796851667145055879164914603795097648302736290776036325719896019943613223224758669301795947058849835653315684522241353947272025729240171696391019495198015823464304204837697704084400026597136876830705313291594784180580344101802887034184588433826193418940724113606159448999270825612846039040 (.top 1305) (.n (.n (.n .e 5328861283668172329945723047610543162344015260519208769882223815609308534731767367468422377662559474191368770926503962259704838986470903980642385048171435289183712142120091527201213272822614057312549498526766882912470739916365291334130484211968317910540728200834810587639320608063244059366711431587748090989908879483847161068978684672978574300848742228534703293093535976803246170123010048 (.top 787) .e) 10657722567336344659891446095220823719829697487480323158058449599858323324001724836142953716389143035385355652093606588040215523132853906694363594402903958005713759368557497014419623464135154186465185930778813015194318179631810866725183014404709280789130873122506484717014706904503519687465804295665833846509717894728645628072917646647164725182795800610642663997303346332063787338946314240 (.top 1331) .e) 1364188488619052116466105100188265427927790465835611448237134121386983550534863730003679161902274831871235429009191048475921737157759739584062776149158321189552781512318098628892075681249593224391414687848350424804686144209739095741946147340926818648582503278320184121678367437620071534909648140848402317003209716421059955347919840567648028241754193564017903838819279832149103892183086268416 (.top 1380) (.n .e 44701728395069099752361331922969098491778552864224580595909330442217609177279710526875648585922998561287176694846940045698645363834762384902509533805011923052374783650778875084133664453942655374884647906308848221743427546522712788380425133473682489568363858455274277995318941220890676688509569854159493363455898328323003028485766356619161586630320070695571507746060828423150442967319552995622912 (.top 1387) .e))) 11718289888396994085483008995614806982361502053965147496287354851263263832016892758492141559231500248722473978403784595892411946777695466522840443536981762480892115425035203747845252452865493388611038694354870086221179980398695963974714881098728909446728005575274529649105717327439561962939504395102795606623077137030745090731269163147564622158844846046215634537274621133544753734737440037189118328832 (.top 1518) (.n (.n (.n (.n .e 6143758769007883235089715820292895886191944112856950618027917735746179017373133744628111711139836308770759505196802993853873879618265871228777123914719061910909127162947829294628065249597888069325748353469941673606783035024200688023927622028529159436382611596159542358051591594979260813705497867923389206951959873303900970817628208514584815677556554359776372939171195930039390635862338827271907195014348800 (.top 1359) .e) 60844839774924148238142269859917001500666150198480162941933817242442877945994214490568954233154328433538740278257159895336814784788677005938284445312520089949004337602822671693760209717829601857457287983841036016614637791334256398429250128313062059063215083334549315892411526301510165049664259728034057028338371355322016049636728044690713684860179619991765048430832662213137817776834833951372890161799621755034995313824743213320110080 (.top 1394) .e) 522653193927318435126954137687099844907201854216083624152389409735421043478896990949840446563467669518907811782360920427770911882300182002315192328312433802761048744380488427207140409400572510086196704859528213119313991647369758024122255401705142369398760591889130130585717702644554686465469627604431761493206615798132796888700625422043176534333372938532119624585146486828391218715459215464663802498416344565324215083516377429655615832005279744 (.top 1312) (.n .e 68505199434441481928960132734923551180902265194428600998538809799935550952072554424870003004496868706131395575719458716888220721865027702825013501622550993304959186679869626247330508563193234061242725931621422925177948739845878629177501250884751293662941042915566131687732089761714720807328467671080230231165403509756228907882198379886896446550018230433433946963747218481133273401029091194666529167379638141243867245774283597225370014626197490630656 (.top 1319) .e)) 294227591176883860910658765384315689382157408782389922695757131877487494246893284673996751955735792027240178676554166859857030888039806109767439800227299452337114661404798866276027741581962889621510768994205143716623944818002460792702679251549097871376023846093424259336775381356005028711102577394534682014286550517846819601773250681557052171564859387911173270852621149614692370634294749068851018514628246514880176527483954952310031421064541981207184122314752 (.top 794) (.n (.n .e 173681314363648611796940679943495709558103326294967394974212371021012335634665374862849975916203958374049225825291424697634641566534197522904433163218178797291351638779125185271452895256805896556175318567103932713722721672037243236612865136482371840935224751058790310602012051785793030250503674464290410331182562665486702361692906450796114278863943533818304707294455355155586916695211576145509005001661660635476357077471616862749386028009593044547557039379986489938546809926320128 (.top 1235) .e) 60519105271400383280370045557398559872301111250940335265700567461472587750613649436824341422364853053911075840995086724469795374722324022109753664387431283150500922531673392725759249741749285071311082065134309995181071766233683815533150103278688569640612037043798336396333882195743615755605170321091051036120483349577378955791921748684178527696461680568203800626506530629186036064988188542932711357852788418663880860070322919867788204039199122033630858712016706594700353880753348118962185968376446517888761776468681293824 (.top 1326) (.n .e 7704974668338538956812590763251770102845648129040672118409849912135515703866807222313252216596248451233716764438028791972223389835022047177347183624291150676733705281638720783983482032893007194077103942595298831375102533172973803148192170454393150152828378821660139717283887544188665166758504901764415391099027336244533888879773421941708958788675255814227959978380258262428576045935136666182322406136290812195711803265717563719696743754009246548022505530284518132921576592796869334259483791657256823754873908689962476053376777017851805894158660125529231408486473990805087348321729353923598246185729012275347456 (.top 1373) .e))))))
noncomputable def cl80:Cl:=⟨42,[(583992399055640987986069965529637293101109650914687845184869851421473716068191782861023813004624601467521814283977697265689023392718451197835353756037609461886402921244311331089842435518432804864,49),(2615987810513347951534240842431645045807942338970507743069608512340197040418189100094231848633865293899084501001779885570549367369802150830834901735280124753659861177958520932269011872531054705720926706073640978787836444589527698548874253253444622846724849493747046397369728586661186111462862487552,56)],[26328072917139296674479506920917608238180098878665953000665645056,235872651551346334515097161311766807101914459665884734877660956046610383396861373215081665971062867602445211233678568457435255783318265445854043982956898463812201480192,1419606883389857208104148062281258864703403926276058416067372369952999880298966965609775893741169565747626917437504718827431930101760,4374501449566023848745004454235242731529091140447027893929025804098743510166948992627207863730700288,86645927941275464361825443254505541524963393166812588321376199741204595599853155501558106316938483630294681729776259497845587968,1419606883389857208104148062281258864703403926276058416067372369952894670851333240998455610399059805433668318214219157750180596416512,17087896287367280659160173649383376863488786818647889174663352493575913504326091699447956326318080,34175792574734561318320347298766753726977573637295778349326704987151827008652183398895912652636160,11090678776483259438313656736572608220086346177993812863460308025130799881958685349756605814924922099316306036529279336822702342144,142576269300693600582536612678134107335312220916822355321550165735879698602648251445190660457708523239801464330799653497605607717328165577616950712290427288927479705782448586352183318702718976,2281220308811097609320585802851045445205522892900842072991133632772271946760150089598084341930633438922577745535758463397855718905542022679838296619262930621215778040891747644106746078607441920,921377545122446619199598286374111798406648207543562192828031241412739590984341132775996610471996147777285253573559437902874642702415589739740403739899943824757096448],false⟩
noncomputable def cl101:Cl:=⟨98,[],[26328072917139296674479506920917608238180098878665953000665645056,7029552803973744348141466418259346655806013684927241937123761198275710149135542190806741287376489467747148589643688029889542521597336246550213747127080177369088,515912628062173092140956821207548466781773969239746664393056114729870442427532861534701362729607636355580455353200306178595019916772936340554608096716171596493033085558778421953504744954521033561881597153814812180106711408014131388924016872737202519963046391591206912,18687756769780511615554238896948393379235508829270011045915835245487158914182137051552762016147988332042112304909608169173075482591651197908943257490817055036344143859645327167497366310046335500288,115172193140305827399949785796783849297198483943858732176375842800629944942861037292187878827581426693771097210594677972045269737897478249905118673066368957155377152],false⟩
noncomputable def cl122:Cl:=⟨119,[],[26328072917139296674479506920917608238180098878665953000665645056,7029552803973744348141466418259346655806013684927241937123761198275710149135542190806741287376489467747148589643688029889542521597336246550213747127080177369088,8749002899132047697490008908470485566724969392130036443621110109310284880511806396784011856905764864,86645927941275464361825443254505541524963393166812588321376199741204595599853155501558106316938483630294681729776259497845587968,11908525658859223294760121268437066434193723552880488575328241379756028758953516747614357837838087504458397062064416352351324143029770518528,515912628062173092140956821207548466781773969239746664393056114729870442427532861534701362729607636355580455353200306178595019916772936340554608096716171596493033085558778421953504744954521033561881597153814812180106711408014131388924016872737202519963046391591206912],false⟩
noncomputable def cl185:Cl:=⟨140,[(5890680864316836766447387249177485323150322497942039325866434112467149196668308533116384203901789432511941819057101055713078570031339597923813721737355450634240483526142300376223008381319604209103346771972591007194369909432914404806198114785966653444568621256220237572418504994283287316011611924840107274405937152,147),(2323463919496536035621972653359677847667789664472074542817582327641134042744702462494626380254928593683718942329680522796177943516102317258425585521820745658317608165788591696010773937382486025020118047596819618854684068719814620427663506475905402986110057195020734216509318030688256,154)],[388129523075177233787244872115625643486160696724302056673322733743612854427778030283798095335657832297948681986681808356760107994825833841551443335257412643789694325400243425916581112996129857378910773877652680158782099849079685120,2961193260766427870080908753323632865491391234597178013268114067717917684571188414217949761312923273207183843317551695354176609280204850115271832817603376933202242855432368305801716052155177830628594889059321039603280929357824,224945689727159819140526925384299095651170104079954092962082880333356054929700202458246663921658396333326718654714460999706103850496543061475422173822233624969216,14059105607947488696282932836518693647428459515300772141820498877257514426614125712533830846132640818358672140195562528188894447119940125084333841704175613771776,15458150092069033378781407563727949563266422738501103975255835825135238483562801123000303777110321586315678241925292848178931414377282235709978689981439932619404175927672832,20927902484106783612273926739453160614437900649606658417337322628150164269656399410474503235092940821606960933562422798748856825650586087033571891669263608198096413524176872291222879788390745405375986664446468998628718824239225492019305118837068104815447151754454435471287625051579902111328011026432,528294531135665246352339784916516612877961432099825320498180693770338483016458265248265224815973155871203978910165345863155050869100809536420666601740859745230877354993479226590812364000416577248531096697346412560894845258496629756183263035390461246034513395577362841600,1196016433265952743395471289404697183469334636342394919435475068010168751582562017790547530056961358567177919912682844050520724823183081242845833454501961814517388875467644115674562514312432491429888,3032261899024822138962850563403325339735630443158609817760333857372017602533839704058261468608336547665343981633383006379527902414715964574308786946096505011885225905182919967767333235343151195769674712702273151160977893745491968,372141426839350727961253789638658326068553861027515267979007543117376303116497405622545602437666539808868008366777491754940888176096444416,363419362147803445274661903944002271551322129909682878885749553825562796012204497678267189880533730448170034255381021723214554639368192],false⟩
noncomputable def cl207:Cl:=⟨204,[],[26328072917139296674479506920917608238180098878665953000665645056,17822033662586700072817076584766790447054814378878547156428167098955373355670703896923740134776165538468158765114971138922765357880317583417125720753235292579222606828841096293730500313350144,86645927941275464361825443254505541524963393166812588321376199741204595599853155501558106316938483630294681729776259497845587968],true⟩
noncomputable def cl220:Cl:=⟨204,[],[26328072917139296674479506920917608238180098878665953000665645056,17822033662586700072817076584766790447054814378878547156428167098955373355670703896923740134776165538468158765114971138922765357880317583417125720753235292579222606828841096293730500313350144,86645927941275464361825443254505541524963393166812588321376199741204595599853155501558106316938483630294681729776259497845587968],true⟩
noncomputable def cl378:Cl:=⟨354,[(8543948143683640329580086824678208509832835505714299897130953386216223388634883836353192703033344,361),(1968050491570179337085559162931578654341255993022864015766161284480558362459599413331204517812637972087265002838132342295789445118315243373324869632603924174255681643000841998409157253439052227495462121320377309302450720535273251593703552995337456774306835988480,375)],[31488807865122869393368946606905258469460095888365824252258580551763682545212403848663879920004199197667055165889348480560995830926071797213642534807745262096696904590258333019150716448856551287049565021230277668973707743672931230586085003537763248383076992024576,125280926705350798278722342336982743117734001678000471139057732141223948152841734755766363093069927025309803017944384780831987714662395391326094325060913275606636430568706838182477002117244668641684840675520942444161491765608156472127431298905565705872132176703443342458893325048161874783697903694759674385608880298262773144034526202733311228630794240,3032261899024822138962850563403325339735630443158609817760333857372017602533839704058261468608336547665343981633383006379527902414715964574308786946096505011885225905182919967767333235343151195769674712702273151160977893745491968,9568131466127621947163770315237577467754677090739159355483800544081350012660496142324380240455690866418524219667919950668304266065268636320008775786656052974590785032802228265714872844387306757423104],false⟩
noncomputable def cl421:Cl:=⟨397,[],[439347050248359021758841651141295811833185134673533371644500132820356747268583921678662322807236426599087520426816009230778952707950167701706314688964019093504,8958978968711216842229769122273777119226568655726258088266710175610076451204144520865560225986413330432,7547924849643082704483109161978026347541199843744725871910967233813440498165830198928629018772334599696685663754817909064558644934564190837738917210374894250274764881920],false⟩
noncomputable def cl1467:Cl:=⟨1408,[(353001744838527187118638605275648100237913718278606632290834486527434049215519354653918590791266972130445557528811471574442027598097983177208592404370246001427792898252677408480061024153146595926288896792243128735105024,1422),(9797766621314684873895700802803280152535069770629069982855476348299866301077172375053346919965464043300007099298158096349299926901707071055807737828672609660454285751064937327881784436528969707469930496,1436)],[2281220308811097609320585802850146541140714750342323482972898541411292358062694843776961529777244692501801939217039608085443642862009292455824714253705190549888963681674412356131027577244483584,1552518092300708935148979488462502573944642786897208226693290934978129729629530638497778277626515433032125139938617237772964587165436175958796704615190185458092704505596624846699085685826222343714376044391029703443236005473945649152,86645927941275464361825443254505541524963393166812588321376199741204595599853155501558106316938483630294681729776259497845587968,4008989654571225544919114954782657145965506371593075641501726346547537771140323703248541960225036682883086849284819595922465928411718392512385023292763382207237054433307622075860758112788536617585567379557485081734733648901418162737308612915927148426583696754812052025068793750416465474133468637931165998801376391211144904354116946995683841411364421632,2707685248164858261307045101702764175896125808942294629616463853883992936364821946231204062003665062127496437907529006055424000,50872912848509630386961759877949316643677867246190783751426527740913833529072321978952667708277746849848239767887119794505910690485867483537029267916432113056139521547587792493281806345084180762818859173316093084006137898424721119117312,74751027079122046462216955587793574866616173680038959026824893288009369608273281923305565756496916708933716265349662779186561677530919121579574835318200769192512008982968097179324826509542338592768,149502054158244092924433911175587147033884070634160088367326681963720167036745129363266524923171758504128582038508660216277375604461447922765503072650647329237571602889392339838579695996194565128192,11090678776483259438313656736572608220086346177993812863460308025130799881958685349756605814924922099316306036529279336822702342144],false⟩
noncomputable def clsT:Tr Cl:=(.n (.n (.n (.n .e 80 cl80 .e) 101 cl101 .e) 122 cl122 (.n .e 185 cl185 .e)) 207 cl207 (.n (.n (.n .e 220 cl220 .e) 378 cl378 .e) 421 cl421 (.n .e 1467 cl1467 .e)))
noncomputable def TF (fns:Tr Fn):Tk where
 tx:=⟨globT,fns,clsT,378⟩
 kept:=1506
 put:=.top 312
 kValues:=key "values"
 kGet:=key "get"
 kSet:=key "set_bits"
 kAppend:=key "append"
 kPop:=key "pop"
 kKind:=key "kind"
 kExc:=220
 next:=1485
noncomputable def TG:Tk:=TF .e
noncomputable def dfl:List PySem.Expr→List V
 | []=>[]
 | .Constant c _ _ :: r=>(match constV c with | some u=>u | none=>.none) :: dfl r
 | .UnaryOp .USub (.Constant (.int i) _ _) _ :: r=>.int (-i) :: dfl r
 | _ :: r=>.none :: dfl r
noncomputable def fnD:Option PySem.Stmt→Fn
 | some (.FunctionDef _ args body _ _ _ sc _ _ _)=>⟨args.args.map fun a=>key a.arg,dfl args.defaults,kindsOf sc,⟨css (compS TG (kindsOf sc) 40) body⟩⟩
 | _=>⟨[],[],[],noS⟩
noncomputable def fnsT:Tr Fn:=(.n (.n (.n (.n (.n (.n (.n .e 28 (fnD (defAt 2)) .e) 42 (fnD (methAt 3 0)) .e) 49 (fnD (methAt 3 1)) (.n .e 56 (fnD (methAt 3 2)) .e)) 98 (fnD (methAt 4 0)) (.n (.n .e 119 (fnD (methAt 5 0)) .e) 140 (fnD (methAt 6 0)) (.n .e 147 (fnD (methAt 6 1)) .e))) 154 (fnD (methAt 6 2)) (.n (.n (.n (.n .e 204 (fnD (methAt 8 0)) .e) 241 (fnD (defAt 12)) .e) 249 (fnD (defAt 13)) (.n .e 270 (fnD (defAt 16)) .e)) 298 (fnD (defAt 20)) (.n (.n .e 305 (fnD (defAt 21)) .e) 312 (fnD (defAt 22)) (.n .e 326 (fnD (defAt 24)) .e)))) 354 (fnD (methAt 28 0)) (.n (.n (.n (.n (.n .e 361 (fnD (methAt 28 1)) .e) 375 (fnD (methAt 28 3)) .e) 397 (fnD (methAt 29 0)) (.n .e 773 (fnD (defAt 84)) .e)) 780 (fnD (defAt 85)) (.n (.n .e 787 (fnD (defAt 86)) .e) 794 (fnD (defAt 87)) (.n .e 801 (fnD (defAt 88)) .e))) 903 (fnD (defAt 100)) (.n (.n (.n .e 990 (fnD (defAt 115)) .e) 997 (fnD (defAt 116)) (.n .e 1004 (fnD (defAt 117)) .e)) 1011 (fnD (defAt 118)) (.n (.n .e 1018 (fnD (defAt 119)) .e) 1025 (fnD (defAt 120)) (.n .e 1074 (fnD (defAt 127)) .e))))) 1102 (fnD (defAt 132)) (.n (.n (.n (.n (.n (.n .e 1109 (fnD (defAt 133)) .e) 1130 (fnD (defAt 136)) .e) 1137 (fnD (defAt 137)) (.n .e 1207 (fnD (defAt 148)) .e)) 1228 (fnD (defAt 151)) (.n (.n .e 1235 (fnD (defAt 152)) .e) 1242 (fnD (defAt 153)) (.n .e 1270 (fnD (defAt 158)) .e))) 1277 (fnD (defAt 159)) (.n (.n (.n (.n .e 1284 (fnD (defAt 160)) .e) 1291 (fnD (defAt 161)) .e) 1298 (fnD (defAt 162)) (.n .e 1305 (fnD (defAt 163)) .e)) 1312 (fnD (defAt 164)) (.n (.n .e 1319 (fnD (defAt 166)) .e) 1326 (fnD (defAt 168)) (.n .e 1331 (fnD (defAt 169)) .e)))) 1338 (fnD (defAt 170)) (.n (.n (.n (.n (.n .e 1345 (fnD (defAt 171)) .e) 1352 (fnD (defAt 172)) .e) 1359 (fnD (defAt 173)) (.n .e 1366 (fnD (defAt 174)) .e)) 1373 (fnD (defAt 175)) (.n (.n .e 1380 (fnD (defAt 176)) .e) 1387 (fnD (defAt 177)) (.n .e 1394 (fnD (defAt 178)) .e))) 1408 (fnD (methAt 180 0)) (.n (.n (.n .e 1422 (fnD (methAt 180 2)) .e) 1436 (fnD (methAt 180 4)) (.n .e 1492 (fnD (defAt 184)) .e)) 1499 (fnD (defAt 185)) (.n (.n .e 1511 (fnD (defAt 187)) .e) 1518 (fnD (defAt 188)) (.n .e 1525 (fnD (defAt 189)) .e))))))
noncomputable def TT:Tk:=TF fnsT
noncomputable def lawBody:List PySem.Stmt:=match defAt 190 with | some (.FunctionDef _ _ b _ _ _ _ _ _ _)=>b | _=>[]
noncomputable def lawSc:Scope:=match defAt 190 with | some (.FunctionDef _ _ _ _ _ _ sc _ _ _)=>sc | _=>default
noncomputable def rowBody:List PySem.Stmt:=match defAt 182 with | some (.FunctionDef _ _ b _ _ _ _ _ _ _)=>b | _=>[]
noncomputable def rowSc:Scope:=match defAt 182 with | some (.FunctionDef _ _ _ _ _ _ sc _ _ _)=>sc | _=>default
noncomputable def rowA:Nat:=1478
end Mine
end
end
section
noncomputable section
namespace Mine
open PySem PySem.W
noncomputable def crumb (i j:Nat):V:=.bv [.s i (2 * j),.s i (2 * j + 1)]
noncomputable def crumbs (i:Nat):Nat→Nat→List V
 | 0,_=>[]
 | n + 1,j=>crumb i j :: crumbs i n (j + 1)
noncomputable def sets (v:Ve) (l:List (Nat×V)):St→Option St:=List.rec (fun σ=>some σ) (fun p _ ih σ=>match storeK (lk (kindsOf lawSc) p.1) p.1 v p.2 σ with | some σ'=>ih σ' | none=>none) l
noncomputable def lawB (n k:Nat):CS:=⟨css (compS TT (kindsOf lawSc) 40) (takeL k (dropL n lawBody))⟩
noncomputable def segI (wide count outer:Nat) (signed:V) (κ:Ve→St→Bool):Bool :=
 lay (kindsOf lawSc) [] [] ⟨[],[],0,10,0⟩ fun cs σ =>
  let v:Ve:=⟨cs,1⟩
  let b:=σ.new (.list (crumbs 0 outer 0))
  let b':=b.new (.list (crumbs 1 wide 0))
  match sets v [(key "wide",.int wide),(key "count",.int count),(key "outer",.int outer),(key "signed",signed),(key "bits",.loc σ.nxt),(key "inner_bits",.loc b.nxt)] b' with
  | some σ1=>(lawB 7 7).s (runC TT 40) v σ1 (fun fl σ2=>match fl with
   | .next=>κ v σ2
   | _=>false) (fun _ _=>false)
  | none=>false
noncomputable def bodyL:List PySem.Stmt:=match nth lawBody 14 with
 | some (.For _ _ b _ _)=>b
 | _=>[]
noncomputable def sb (i:Nat):Nat→Nat→List Bt
 | 0,_=>[]
 | n + 1,j=>.s i j :: sb i n (j + 1)
noncomputable def fill (v:Ve) (wide count outer:Nat) (σ:St):Option St:=match loadK (some .local) (key "store") v σ with
 | some u=>(match attrOf TT u (key "values") σ with
  | some (.loc k)=>some (σ.put k (.vals [(0,.tup [.int wide,.bv (sb 2 wide 0),.bv (sb 3 wide 0)]),(1,.tup [.int outer,.bv (sb 4 outer 0),.bv (sb 5 outer 0)]),(2,.tup [.int count,.bv (sb 6 count 0),.bv (sb 7 count 0)]),(3,.tup [.int 1,.bv (sb 8 1 0),.bv (sb 9 1 0)])]))
  | _=>none)
 | none=>none
noncomputable def bodyC (n k:Nat):CS:=⟨css (compS TT (kindsOf lawSc) 40) (takeL k (dropL n bodyL))⟩
end Mine
end
end
section
noncomputable section
namespace Mine
open PySem PySem.W
noncomputable def sameBt (x y:Bt):Bool:=match x with
 | .z=>(match y with | .z=>true | _=>false)
 | .o=>(match y with | .o=>true | _=>false)
 | .s i j=>(match y with | .s k l=>andB (Nat.beq i k) (Nat.beq j l) | _=>false)
noncomputable def all2 {α:Type} (f:α→α→Bool) (l m:List α):Bool:=List.rec (motive:=fun _=>List α→Bool) (fun m=>match m with | []=>true | _ :: _=>false)
 (fun x _ ih m=>match m with | []=>false | y :: ys=>andB (f x y) (ih ys)) l m
noncomputable def sameSt (x y:Str):Bool:=Nat.beq (key x) (key y)
noncomputable def sameS (f:V→V→Bool) (x y:V):Bool:=match x with
 | .none=>(match y with | .none=>true | _=>false)
 | .bool a=>(match y with | .bool b=>(match a with | true=>b | false=>notB b) | _=>false)
 | .int a=>(match y with | .int b=>beqI a b | _=>false)
 | .str a=>(match y with | .str b=>sameSt a b | _=>false)
 | .top a=>(match y with | .top b=>Nat.beq a b | _=>false)
 | .loc a=>(match y with | .loc b=>Nat.beq a b | _=>false)
 | .sb a=>(match y with | .sb b=>Nat.beq a b | _=>false)
 | .opq a=>(match y with | .opq b=>Nat.beq a b | _=>false)
 | .tup a=>(match y with | .tup b=>all2 f a b | _=>false)
 | .bv a=>(match y with | .bv b=>all2 sameBt a b | _=>false)
 | _=>false
noncomputable def sameV:V→V→Bool:=Nat.rec (fun _ _=>false) (fun _ ih=>sameS ih) 5
noncomputable def sameP (p q:Nat×V):Bool:=andB (Nat.beq p.1 q.1) (sameV p.2 q.2)
noncomputable def sameO' (x:Option V) (u:V):Bool:=match x with | some w=>sameV u w | none=>false
noncomputable def sameC (τ:List (Nat×V)) (m:List (Nat×V)):Bool:=List.rec true (fun p _ ih=>andB (sameO' (lk m p.1) p.2) ih) τ
noncomputable def fitsB (w:Nat) (x:V):Bool:=match x with
 | .bv l=>allZ (dropL w l)
 | .int n=>(match n with | .ofNat n=>Nat.ble (n + 1) (2 ^ w) | .negSucc _=>false)
 | _=>false
noncomputable def lkW (ws:List (Int×Nat)) (k:Int):Option Nat:=List.rec none (fun p _ ih=>Bool.rec ih (some p.2) (beqI p.1 k)) ws
noncomputable def fitsW (w:Option Nat) (x:V):Bool:=match w with
 | some w=>tup3 x fun w' a b=>andB (isI w' w) (andB (fitsB w a) (fitsB w b))
 | none=>false
noncomputable def closeV (ws:List (Int×Nat)) (xs:List (Int×V)):Bool:=List.rec true (fun p _ ih=>andB (fitsW (lkW ws p.1) p.2) ih) xs
noncomputable def fits4 (xs:List V):Bool:=List.rec true (fun x _ ih=>andB (fitsB 2 x) ih) xs
noncomputable def weakO (t o:O):Bool:=match t with
 | .cell v=>(match o with | .cell v'=>(match v with | none=>true | some u=>sameO' v' u) | _=>false)
 | .list xs=>(match o with | .list ys=>all2 sameV xs ys | _=>false)
 | .edict=>(match o with | .edict=>true | _=>false)
 | .sdict xs=>(match o with | .sdict ys=>all2 sameP xs ys | _=>false)
 | .inst c d=>(match o with | .inst c' d'=>andB (Nat.beq c c') (Nat.beq d d') | _=>false)
 | .attrs xs=>(match o with | .attrs ys=>all2 sameP xs ys | _=>false)
 | .rows=>(match o with | .rows=>true | _=>false)
 | .stv ws=>(match o with | .vals xs=>closeV ws xs | _=>false)
 | .crl n=>(match o with | .list xs=>andB (Nat.beq (len xs) n) (fits4 xs) | .crl m=>Nat.beq m n | _=>false)
 | _=>false
noncomputable def weakA (t:O) (o:Option O):Bool:=match o with | some o=>weakO t o | none=>false
noncomputable def weakL (τ:List (Nat×O)) (m:List (Nat×O)):Bool:=List.rec true (fun p _ ih=>andB (weakA p.2 (lk m p.1)) ih) τ
noncomputable def backOK (τ σ:St):Bool:=andB (Nat.ble σ.fz τ.fz) (andB (sameC τ.cur σ.cur) (weakL τ.led σ.led))
noncomputable def openL (ws:List (Int×Nat)):Nat→List (Int×V):=List.rec (fun _=>[]) (fun p _ ih i=>(p.1,.tup [.int (.ofNat p.2),.bv (sbs i p.2 0),.bv (sbs (i + 1) p.2 0)]) :: ih (i + 2)) ws
noncomputable def openS (σ:St) (m:Nat) (ws:List (Int×Nat)):St:={ σ.put m (.vals (openL ws σ.syn)) with syn:=σ.syn + 2 * len ws }
noncomputable def crumbL (i n:Nat) (t:Option Nat):List V:=match t with
 | none=>crumbs i n 0
 | some t=>app (crumbs i (n - 1) 0) [.int (.ofNat t)]
noncomputable def openC (σ:St) (b n:Nat) (t:Option Nat):St:={ σ.put b (.list (crumbL σ.syn n t)) with syn:=σ.syn + 1 }
end Mine
end
end
section
namespace Mine
theorem keyL_inj:∀ {a b:List Nat},keyL a = keyL b→a = b:=by
 intro a
 induction a with
 | nil =>
  intro b h
  induction b using List.casesOn with
  | nil=>rfl
  | cons c r=>exact absurd (show (0:Nat) = 2 ^ c * (2 * keyL r + 1) from h) (Nat.ne_of_lt (Nat.mul_pos (Nat.two_pow_pos c) (Nat.succ_pos _)))
 | cons c r ih =>
  intro b h
  induction b using List.casesOn with
  | nil=>exact absurd (show 2 ^ c * (2 * keyL r + 1) = 0 from h) (Nat.ne_of_gt (Nat.mul_pos (Nat.two_pow_pos c) (Nat.succ_pos _)))
  | cons d t =>
   have h':2 ^ c * (2 * keyL r + 1) = 2 ^ d * (2 * keyL t + 1):=h
   have key:∀ {c d x y:Nat},c < d→2 ^ c * (2 * x + 1) = 2 ^ d * (2 * y + 1)→False:=fun {c d x y} hlt e=>by
    obtain ⟨k,rfl⟩:∃ k,d = c + (k + 1):=Nat.exists_eq_add_of_lt hlt
    rw [Nat.pow_add,Nat.mul_assoc] at e
    have e2:=Nat.eq_of_mul_eq_mul_left (Nat.two_pow_pos c) e
    rw [Nat.pow_succ,Nat.mul_comm (2 ^ k) 2,Nat.mul_assoc] at e2
    lia
   rcases Nat.lt_trichotomy c d with q | q | q
   ·exact (key q h').elim
   ·subst q
    have e2:=Nat.eq_of_mul_eq_mul_left (Nat.two_pow_pos c) h'
    have:keyL r = keyL t:=Nat.eq_of_mul_eq_mul_left Nat.two_pos (Nat.succ.inj e2)
    rw [ih this]
   ·exact (key q h'.symm).elim
theorem key_inj {x y:Str} (h:key x = key y):x = y:=by
 have h1:x.cps.toList = y.cps.toList:=keyL_inj h
 cases x;cases y
 simp only [Str.mk.injEq]
 exact Array.toList_inj.mp h1
noncomputable def BI.id:BI→String
 | .len=>"len" | .abs=>"abs" | .max=>"max" | .min=>"min" | .isinstance=>"isinstance" | .sorted=>"sorted"
noncomputable def TY.id:TY→String
 | .range=>"range" | .tuple=>"tuple" | .str=>"str" | .list=>"list" | .int=>"int"
structure Va where
 adr:List Addr
 sym:List Value
structure Va.le (a b:Va):Prop where
 adr:a.adr <+: b.adr
 sym:a.sym <+: b.sym
theorem Va.le.refl (a:Va):a.le a:=⟨List.prefix_refl _,List.prefix_refl _⟩
theorem Va.le.trans {a b c:Va} (x:a.le b) (y:b.le c):a.le c:=⟨x.adr.trans y.adr,x.sym.trans y.sym⟩
theorem getpre {α:Type} {ρ ρ':List α} (hp:ρ <+: ρ') {n:Nat} {a:α} (hn:ρ[n]? = some a):ρ'[n]? = some a:=by
 refine x1a1 hp fun t q1q=>?_;clear hp;subst q1q
 rw [List.getElem?_append_left (List.getElem?_eq_some_iff.mp hn).1];exact hn
inductive IsBt (S:List Value):Bt→Nat→Prop
 | z:IsBt S .z 0
 | o:IsBt S .o 1
 | s {i j n:Nat} {t}:S[i]? = some (.int (n:Int) t)→IsBt S (.s i j) (n / 2 ^ j % 2)
inductive IsBts (S:List Value):List Bt→Nat→Prop
 | nil:IsBts S [] 0
 | cons {b x l m}:IsBt S b x→IsBts S l m→IsBts S (b :: l) (x + 2 * m)
theorem IsBt.mono {S S':List Value} (hp:S <+: S'):∀ {b x},IsBt S b x→IsBt S' b x:=by
 intro b x q
 induction q with
 | z=>exact .z
 | o=>exact .o
 | s e=>exact .s (getpre hp e)
theorem IsBts.mono {S S':List Value} (hp:S <+: S'):∀ {b x},IsBts S b x→IsBts S' b x:=by
 intro x v q
 induction q with
 | nil=>exact .nil
 | cons a _ ih=>exact .cons (a.mono hp) ih
theorem IsBt.lt {S:List Value}:∀ {b x},IsBt S b x→x < 2:=by
 intro b x q
 induction q with
 | z=>exact Nat.two_pos
 | o=>exact Nat.one_lt_two
 | s _=>exact Nat.mod_lt _ Nat.two_pos
theorem IsBt.det {S:List Value}:∀ {b x y},IsBt S b x→IsBt S b y→x = y:=by
 intro b x y p
 induction p with
 | z=>intro q;cases q;rfl
 | o=>intro q;cases q;rfl
 | s e =>
  intro q
  cases q with
  | s e' =>
  rw [e] at e'
  have:=Option.some.inj e'
  simp only [Value.int.injEq,Int.natCast_inj] at this
  rw [this.1]
theorem IsBts.det {S:List Value}:∀ {b x y},IsBts S b x→IsBts S b y→x = y:=by
 intro b x y p
 induction p generalizing y with
 | nil=>intro q;cases q;rfl
 | cons a r ih =>
  intro q
  cases q with
  | cons a' r'=>rw [a.det a',ih r']
noncomputable def OpqOk (v:Value):Prop:=v = .none∨∃ a,v = .ref a
mutual
inductive IsV (ρ:Va) (h:Heap):V→Value→Prop
 | none:IsV ρ h .none .none
 | bool {b}:IsV ρ h (.bool b) (.bool b)
 | int {i t}:IsV ρ h (.int i) (.int i t)
 | str {x t}:IsV ρ h (.str x) (.str x t)
 | top {a}:IsV ρ h (.top a) (.ref a)
 | bi {b}:IsV ρ h (.bi b) (.builtin b.id)
 | ty {t}:IsV ρ h (.ty t) (.type t.id)
 | tup {l a vs}:IsTup h a vs.toArray→IsVs ρ h l vs→IsV ρ h (.tup l) (.ref a)
 | loc {n a}:ρ.adr[n]? = some a→IsV ρ h (.loc n) (.ref a)
 | bv {l m t}:IsBts ρ.sym l m→IsV ρ h (.bv l) (.int (m:Int) t)
 | sb {i b}:ρ.sym[i]? = some (.bool b)→IsV ρ h (.sb i) (.bool b)
 | opq {i v}:ρ.sym[i]? = some v→OpqOk v→IsV ρ h (.opq i) v
inductive IsVs (ρ:Va) (h:Heap):List V→List Value→Prop
 | nil:IsVs ρ h [] []
 | cons {x v xs vs}:IsV ρ h x v→IsVs ρ h xs vs→IsVs ρ h (x :: xs) (v :: vs)
end
noncomputable def IsV.Inv (ρ:Va) (h:Heap) (x:V) (v:Value):Prop:=match x with
 | .none=>v = .none
 | .bool b=>v = .bool b
 | .int i=>∃ t,v = .int i t
 | .str x=>∃ t,v = .str x t
 | .top a=>v = .ref a
 | .bi b=>v = .builtin b.id
 | .ty t=>v = .type t.id
 | .tup l=>∃ a vs,v = .ref a∧IsTup h a vs.toArray∧IsVs ρ h l vs
 | .loc n=>∃ a,v = .ref a∧ρ.adr[n]? = some a
 | .bv l=>∃ m t,v = .int ((m:Nat):Int) t∧IsBts ρ.sym l m
 | .sb i=>∃ b,v = .bool b∧ρ.sym[i]? = some (.bool b)
 | .opq i=>ρ.sym[i]? = some v∧OpqOk v
theorem IsV.inv {ρ:Va} {h:Heap} {x:V} {v:Value} (hv:IsV ρ h x v):IsV.Inv ρ h x v:=by
 induction hv using IsV.casesOn with
 | none=>exact rfl
 | bool=>exact rfl
 | int=>exact ⟨_,rfl⟩
 | str=>exact ⟨_,rfl⟩
 | top=>exact rfl
 | bi=>exact rfl
 | ty=>exact rfl
 | tup a b=>exact ⟨_,_,rfl,a,b⟩
 | loc a=>exact ⟨_,rfl,a⟩
 | bv a=>exact ⟨_,_,rfl,a⟩
 | sb a=>exact ⟨_,rfl,a⟩
 | opq a b=>exact ⟨a,b⟩
noncomputable def IsVs.Inv (ρ:Va) (h:Heap) (xs:List V) (vs:List Value):Prop:=match xs with
 | []=>vs = []
 | x :: xs=>∃ v ws,vs = v :: ws∧IsV ρ h x v∧IsVs ρ h xs ws
theorem IsVs.inv {ρ:Va} {h:Heap} {xs:List V} {vs:List Value} (hv:IsVs ρ h xs vs):IsVs.Inv ρ h xs vs:=by
 induction hv using IsVs.casesOn with
 | nil=>exact rfl
 | cons a b=>exact ⟨_,_,rfl,a,b⟩
theorem mInt {α:Type} {f:Int→α} {d a:α} {i:V} (h:(match i with | .int k=>f k | _=>d) = a) (n:d≠a):∃ k,i = .int k∧f k = a:=by
 induction i using V.casesOn with
 | int k=>exact ⟨k,rfl,h⟩
 | _=>exact absurd h n
theorem mStr {α:Type} {f:Str→α} {d a:α} {i:V} (h:(match i with | .str k=>f k | _=>d) = a) (n:d≠a):∃ k,i = .str k∧f k = a:=by
 induction i using V.casesOn with
 | str k=>exact ⟨k,rfl,h⟩
 | _=>exact absurd h n
theorem mSome {α:Type} {f:O→α} {d a:α} {x:Option O} (h:(match x with | some k=>f k | none=>d) = a) (n:d≠a):∃ k,x = some k∧f k = a:=by
 induction x using Option.casesOn with
 | some k=>exact ⟨k,rfl,h⟩
 | none=>exact absurd h n
theorem mOV {α:Type} {f:V→α} {d a:α} {x:Option V} (h:(match x with | some k=>f k | none=>d) = a) (n:d≠a):∃ k,x = some k∧f k = a:=by
 induction x using Option.casesOn with
 | some k=>exact ⟨k,rfl,h⟩
 | none=>exact absurd h n
theorem nS {α:Type} {w:α}:none≠some w:=nofun
theorem ft:false≠true:=Bool.false_ne_true
theorem mList {α:Type} {f:List V→α} {d a:α} {o:O} (h:(match o with | .list k=>f k | _=>d) = a) (n:d≠a):∃ k,o = .list k∧f k = a:=by
 induction o using O.casesOn with
 | list k=>exact ⟨k,rfl,h⟩
 | _=>exact absurd h n
theorem mLoc {α:Type} {f:Nat→α} {d a:α} {i:V} (h:(match i with | .loc k=>f k | _=>d) = a) (n:d≠a):∃ k,i = .loc k∧f k = a:=by
 induction i using V.casesOn with
 | loc k=>exact ⟨k,rfl,h⟩
 | _=>exact absurd h n
theorem mTup {α:Type} {f:List V→α} {d a:α} {i:V} (h:(match i with | .tup k=>f k | _=>d) = a) (n:d≠a):∃ k,i = .tup k∧f k = a:=by
 induction i using V.casesOn with
 | tup k=>exact ⟨k,rfl,h⟩
 | _=>exact absurd h n
structure TK (h h':Heap):Prop where
 tup:∀ a items,IsTup h a items→IsTup h' a items
 code:∀ cv q,h.CodeRec cv q→h'.CodeRec cv q
theorem TK.refl (h:Heap):TK h h:=⟨fun _ _ x=>x,fun _ _ x=>x⟩
theorem TK.trans {a b c:Heap} (x:TK a b) (y:TK b c):TK a c:=⟨fun d i z=>y.tup d i (x.tup d i z),fun d i z=>y.code d i (x.code d i z)⟩
theorem TK.keeps {h h':Heap} (k:∀ b o,h.get? b = some o→h'.get? b = some o):TK h h':=⟨fun _ _ x=>IsTup.keeps x k,fun _ _ x=>x.keeps k⟩
theorem TK.but {h h':Heap} {a:Addr} {oa:Obj} (k:∀ b o,b≠a→h.get? b = some o→h'.get? b = some o) (ha:h.get? a = some oa) (nt:oa.cls≠.type "tuple") (nc:∀ vs q t,oa.data = .fields vs→vs[1]?≠some (.str q t)):TK h h' where
 tup:=fun b items hz=>x1a3 hz fun o ho hc r=>⟨o,k _ _ (fun q=>by rw [q,ha] at ho;(refine jS ho fun j=>?_;clear ho;subst j);exact nt hc) ho,hc,r⟩
 code:=fun cv q hz=>x4a4 hz fun c o vs t e g d r=>⟨c,o,vs,t,e,k _ _ (fun z=>by rw [z,ha] at g;(refine jS g fun j=>?_;clear g;subst j);exact nc vs q t d r) g,d,r⟩
theorem IsV.mono {ρ ρ':Va} {h h':Heap} (hp:ρ.le ρ') (hk:TK h h') {x:V} {v:Value}:IsV ρ h x v→IsV ρ' h' x v :=
 IsV.rec (motive_1:=fun x v _=>IsV ρ' h' x v) (motive_2:=fun x v _=>IsVs ρ' h' x v) .none .bool .int .str .top .bi .ty (fun ht _ ih=>.tup (hk.tup _ _ ht) ih) (fun hn=>.loc (getpre hp.adr hn)) (fun hb=>.bv (hb.mono hp.sym)) (fun hb=>.sb (getpre hp.sym hb)) (fun hb ho=>.opq (getpre hp.sym hb) ho) .nil (fun _ _ a b=>.cons a b)
theorem IsVs.mono {ρ ρ':Va} {h h':Heap} (hp:ρ.le ρ') (hk:TK h h') {x:List V} {v:List Value}:IsVs ρ h x v→IsVs ρ' h' x v :=
 IsVs.rec (motive_1:=fun x v _=>IsV ρ' h' x v) (motive_2:=fun x v _=>IsVs ρ' h' x v) .none .bool .int .str .top .bi .ty (fun ht _ ih=>.tup (hk.tup _ _ ht) ih) (fun hn=>.loc (getpre hp.adr hn)) (fun hb=>.bv (hb.mono hp.sym)) (fun hb=>.sb (getpre hp.sym hb)) (fun hb ho=>.opq (getpre hp.sym hb) ho) .nil (fun _ _ a b=>.cons a b)
theorem IsVs.length {ρ:Va} {h:Heap}:∀ {xs:List V} {vs:List Value},IsVs ρ h xs vs→xs.length = vs.length:=by
 intro xs
 induction xs with
 | nil=>intro vs a;exact congrArg List.length (show vs = [] from a.inv).symm
 | cons x xs ih=>intro vs a;refine x2a3 (a.inv :) fun w us e _ r=>?_;rw [e];exact congrArg (· + 1) (ih r)
theorem IsVs.append {ρ:Va} {h:Heap}:∀ {xs:List V} {vs:List Value} {ys:List V} {ws:List Value},IsVs ρ h xs vs→IsVs ρ h ys ws→IsVs ρ h (xs++ys) (vs++ws):=by
 intro xs
 induction xs with
 | nil=>intro vs ys ws a b;rw [show vs = [] from a.inv];exact b
 | cons x xs ih=>intro vs ys ws a b;refine x2a3 (a.inv :) fun w us e a r=>?_;rw [e];exact .cons a (ih r b)
theorem IsVs.get {ρ:Va} {h:Heap}:∀ {xs:List V} {vs:List Value} {i:Nat} {x:V},IsVs ρ h xs vs→xs[i]? = some x→∃ v,vs[i]? = some v∧IsV ρ h x v:=by
 intro xs
 induction xs with
 | nil=>intro vs i x _ e;exact nomatch e
 | cons y xs ih =>
  intro vs i x q e
  refine x2a3 (q.inv :) fun v ws e0 a r=>?_
  rw [e0]
  induction i using Nat.casesOn with
  | zero=>rw [← Option.some.inj (show some y = some x from e)];exact ⟨v,rfl,a⟩
  | succ i=>exact ih (i:=i) r e
theorem beqN (a b:Nat):Nat.beq a b = decide (a = b):=by
 by_cases h:a = b
 ·subst h;simp
 ·rw [decide_eq_false h];exact Bool.eq_false_iff.mpr fun q=>h (Nat.eq_of_beq_eq_true q)
section
variable {α:Type}
@[simp] theorem lk_nil (x:Nat):lk ([]:List (Nat×α)) x = none:=rfl
theorem lk_cons {y x:Nat} {v:α} {r:List (Nat×α)}:lk ((y,v) :: r) x = if y = x then some v else lk r x:=by
 show (Bool.rec (lk r x) (some v) (Nat.beq y x):Option α) = _
 rw [beqN];by_cases h:y = x <;> simp [h]
theorem up_cons {y x:Nat} {u v:α} {r:List (Nat×α)}:up ((y,u) :: r) x v = if y = x then (y,v) :: r else (y,u) :: up r x v:=by
 show (Bool.rec ((y,u) :: up r x v) ((y,v) :: r) (Nat.beq y x):List (Nat×α)) = _
 rw [beqN];by_cases h:y = x <;> simp [h]
theorem lk_up {x y:Nat} {v:α}:∀ {m:List (Nat×α)},lk (up m x v) y = if y = x then some v else lk m y:=by
 intro lq
 induction lq with
 | nil =>
  show lk [(x,v)] y = _
  simp only [lk_cons,lk_nil];by_cases h:x = y <;> simp [h,eq_comm]
 | cons hq r ih =>
  obtain ⟨z,u⟩:=hq
  rw [up_cons]
  by_cases hz:z = x
  ·subst hz;rw [if_pos rfl,lk_cons,lk_cons]
   by_cases h:z = y
   ·simp [h]
   ·simp [h,Ne.symm h]
  ·rw [if_neg hz,lk_cons,lk_cons,ih]
   by_cases h:z = y
   ·subst h;simp [hz]
   ·simp [h]
theorem app_eq:∀ (l m:List α),app l m = l++m:=by
 intro lq
 induction lq with
 | nil =>
  intro _
  exact rfl
 | cons a l ih =>
  intro m
  exact congrArg (a :: ·) (ih m)
theorem len_eq:∀ (l:List α),len l = l.length
 | []=>rfl
 | _ :: l=>congrArg (· + 1) (len_eq l)
theorem nth_eq:∀ (l:List α) (n:Nat),nth l n = l[n]?
 | [],_=>rfl
 | a :: l,0=>rfl
 | a :: l,n + 1=>(nth_eq l n).trans (by simp)
theorem dropL_eq:∀ (n:Nat) (l:List α),dropL n l = l.drop n
 | 0,_=>rfl
 | _ + 1,[]=>rfl
 | n + 1,_ :: l=>dropL_eq n l
theorem takeL_eq:∀ (n:Nat) (l:List α),takeL n l = l.take n
 | n,[]=>by cases n <;> rfl
 | 0,a :: l=>rfl
 | n + 1,a :: l=>congrArg (a :: ·) (takeL_eq n l)
theorem revL_aux:∀ (l a:List α),(List.rec (motive:=fun _=>List α→List α) (fun a=>a) (fun x _ ih a=>ih (x :: a)) l:List α→List α) a = l.reverse++a
 | [],_=>rfl
 | x :: l,a=>(revL_aux l (x :: a)).trans (by simp)
theorem revL_eq (l:List α):revL l = l.reverse:=(revL_aux l []).trans (by simp)
end
theorem beqI_eq (a b:Int):beqI a b = decide (a = b):=by
 induction a using Int.casesOn <;> induction b using Int.casesOn <;> simp [beqI,beqN]
 lia
theorem lkI_cons {y x:Int} {v:V} {r:List (Int×V)}:lkI ((y,v) :: r) x = if y = x then some v else lkI r x:=by
 show (Bool.rec (lkI r x) (some v) (beqI y x):Option V) = _
 rw [beqI_eq];by_cases h:y = x <;> simp [h]
theorem upI_cons {y x:Int} {u v:V} {r:List (Int×V)}:upI ((y,u) :: r) x v = if y = x then (y,v) :: r else (y,u) :: upI r x v:=by
 show (Bool.rec ((y,u) :: upI r x v) ((y,v) :: r) (beqI y x):List (Int×V)) = _
 rw [beqI_eq];by_cases h:y = x <;> simp [h]
inductive IsKS (ρ:Va) (h:Heap):List (Nat×V)→List (Str×Value)→Prop
 | nil:IsKS ρ h [] []
 | cons {k n x v xs vs}:key k = n→IsV ρ h x v→IsKS ρ h xs vs→IsKS ρ h ((n,x) :: xs) ((k,v) :: vs)
inductive IsKI (ρ:Va) (h:Heap):List (Int×V)→List (Int×Value)→Prop
 | nil:IsKI ρ h [] []
 | cons {k x v xs vs}:IsV ρ h x v→IsKI ρ h xs vs→IsKI ρ h ((k,x) :: xs) ((k,v) :: vs)
theorem IsKS.mono {ρ ρ':Va} {h h':Heap} (hp:ρ.le ρ') (hk:TK h h'):∀ {x v},IsKS ρ h x v→IsKS ρ' h' x v:=by
 intro x v q
 induction q with
 | nil=>exact .nil
 | cons e a _ ih=>exact .cons e (a.mono hp hk) ih
theorem IsKI.mono {ρ ρ':Va} {h h':Heap} (hp:ρ.le ρ') (hk:TK h h'):∀ {x v},IsKI ρ h x v→IsKI ρ' h' x v:=by
 intro x v q
 induction q with
 | nil=>exact .nil
 | cons a _ ih=>exact .cons (a.mono hp hk) ih
noncomputable def NsIs (ρ:Va) (h:Heap) (m:List (Nat×V)) (mm:Str→Option Value):Prop :=
 ∀ x,match lk m (key x) with
  | some v=>∃ vv,mm x = some vv∧IsV ρ h v vv
  | none=>mm x = none
theorem NsIs.mono {ρ ρ':Va} {h h':Heap} (hp:ρ.le ρ') (hk:TK h h') {m mm} (H:NsIs ρ h m mm):NsIs ρ' h' m mm:=fun x=>by
 have:=H x
 induction e:lk m (key x) using Option.casesOn with
 | none=>rw [e] at this;exact this
 | some v=>rw [e] at this;refine x1a2 this fun vv a b=>?_;clear this;exact ⟨vv,a,b.mono hp hk⟩
theorem NsIs.some {ρ:Va} {h:Heap} {m mm x v} (H:NsIs ρ h m mm) (e:lk m (key x) = some v):∃ vv,mm x = some vv∧IsV ρ h v vv:=by
 have:=H x;rw [e] at this;exact this
theorem NsIs.none {ρ:Va} {h:Heap} {m mm x} (H:NsIs ρ h m mm) (e:lk m (key x) = none):mm x = none:=by
 have:=H x;rw [e] at this;exact this
theorem NsIs.up {ρ:Va} {h:Heap} {m mm x v vv} (H:NsIs ρ h m mm) (hv:IsV ρ h v vv):NsIs ρ h (up m (key x) v) (fun y=>if y = x then Option.some vv else mm y):=fun y=>by
 rw [lk_up]
 by_cases e:y = x
 ·subst e;rw [if_pos rfl];exact ⟨vv,by simp,hv⟩
 ·rw [if_neg fun q=>e (key_inj q)]
  have:=H y
  induction q:lk m (key y) using Option.casesOn with
  | none=>rw [q] at this;simpa [e] using this
  | some u=>rw [q] at this;simpa [e] using this
noncomputable def NsHas (ρ:Va) (h:Heap) (m:List (Nat×V)) (mm:Str→Option Value):Prop:=∀ x v,lk m (key x) = some v→∃ vv,mm x = some vv∧IsV ρ h v vv
theorem NsHas.mono {ρ ρ':Va} {h h':Heap} (hp:ρ.le ρ') (hk:TK h h') {m mm} (H:NsHas ρ h m mm):NsHas ρ' h' m mm:=fun x v e=>x1a2 (H x v e) fun vv a b=>⟨vv,a,b.mono hp hk⟩
theorem NsHas.some {ρ:Va} {h:Heap} {m mm x v} (H:NsHas ρ h m mm) (e:lk m (key x) = some v):∃ vv,mm x = some vv∧IsV ρ h v vv:=H x v e
theorem NsHas.up {ρ:Va} {h:Heap} {m mm x v vv} (H:NsHas ρ h m mm) (hv:IsV ρ h v vv):NsHas ρ h (up m (key x) v) (fun y=>if y = x then Option.some vv else mm y):=fun y u e=>by
 rw [lk_up] at e
 by_cases q:y = x
 ·subst q;rw [if_pos rfl] at e;(refine jS e fun j=>?_;clear e;subst j);exact ⟨vv,by simp,hv⟩
 ·rw [if_neg fun z=>q (key_inj z)] at e
  refine x1a2 (H y u e :) fun w a b=>?_
  exact ⟨w,by simpa [q] using a,b⟩
theorem lookup_kinds {x:Str}:∀ {m:List (Str×NameKind)},lk (List.rec [] (fun p _ ih=>(key p.1,p.2) :: ih) m:Kd) (key x) = m.lookup x:=by
 intro lq
 induction lq with
 | nil =>
  exact rfl
 | cons hq r ih =>
  obtain ⟨y,v⟩:=hq
  show lk ((key y,v) :: _) (key x) = _
  rw [lk_cons,List.lookup_cons]
  by_cases e:y = x
  ·subst e;simp
  ·rw [if_neg fun q=>e (key_inj q)]
   have:(x == y) = false:=beq_eq_false_iff_ne.mpr fun q=>e q.symm
   rw [this];exact ih
end Mine
end
section
namespace Mine
abbrev PW:Program:=PySem.Challenge.pw_ok0101_01
structure SC where
 w:World
 K:Frag
 h0:Heap
 base:Heap
 P:Addr
 gens:Array GenState
 os:OsState
 lq:Str
 pm:Value
 hP:∃ o,h0.get? P = some o
 hM:∃ o,h0.get? sysModules = some o
 hB:base.get? P = none
noncomputable def noArgs:Arguments:={ posonlyargs:=[],args:=[],vararg:=none,kwonlyargs:=[],kw_defaults:=[],kwarg:=none,defaults:=[] }
noncomputable def AllZ (ρ:Va) (x:V):Prop:=∃ (w:Nat) (la lb:List Bt),x = .tup [.int (w:Int),.bv la,.bv lb]∧IsBts ρ.sym la 0∧IsBts ρ.sym lb (2 ^ w - 1)
theorem AllZ.mono {ρ ρ':Va} (hp:ρ.le ρ') {x:V}:AllZ ρ x→AllZ ρ' x:=fun h=>x3a3 h fun w a b e p q=>⟨w,a,b,e,p.mono hp.sym,q.mono hp.sym⟩
noncomputable def ValsAre (ρ:Va) (h:Heap) (xs:List (Int×V)) (kvs:List (Int×Value)):Prop :=
 (∀ k x,lkI xs k = some x→(∃ v,valueAt kvs k = some v∧IsV ρ h x v)∨(valueAt kvs k = none∧AllZ ρ x))∧∀ p∈kvs,(lkI xs p.1).isSome = true
noncomputable def NmOK (v:Value):Prop:=v = .none∨∃ (x:Str) (t:Tok),v = .str x t∧(x = "x"∨x = "y"∨x = "z"∨x = "w")
noncomputable def PairOK (h:Heap) (v:Value):Prop:=∃ (t:Addr) (nm e:Value),v = .ref t∧IsTup h t #[nm,e]∧NmOK nm∧OpqOk e
section
variable (C:SC) (ρ:Va) (h:Heap) (a:Addr)
noncomputable def IsO:O→Prop
 | .cell v=>∃ vo,h.IsCell a vo∧∀ x,v = some x→∃ vv,vo = some vv∧IsV ρ h x vv
 | .list xs=>∃ vs,h.PlainList a vs.toArray∧IsVs ρ h xs vs
 | .edict=>(a == sysModules) = false∧h.DictOf (strKind PW C.w) a []∧h.DictOf (intKind PW C.w) a []
 | .sdict xs=>(a == sysModules) = false∧∃ kvs,h.DictOf (strKind PW C.w) a kvs∧IsKS ρ h xs kvs
 | .idict xs=>(a == sysModules) = false∧∃ kvs,h.DictOf (intKind PW C.w) a kvs∧IsKI ρ h xs kvs
 | .inst cl d=>∃ ox dx,ρ.adr[d]? = some dx∧h.get? a = some ox∧ox.cls = .ref cl∧notCls ox = true∧ox.dict = some dx
 | .attrs xs=>∃ o es n mm,h.get? a = some o∧o.cls = .type "dict"∧o.data = .dict es n∧es.size≤xs.length∧StrKeys es∧(∀ y,nsFind es y = mm y)∧NsIs ρ h xs mm
 | .clos cs sc e=>∃ o cl cdv ct,h.get? a = some o∧o.data = .func (kla_fn "<lambda>" C.lq noArgs e sc cl C.pm cdv ct)∧h.CodeRec cdv C.lq∧okSc sc = true ∧
   ∀ x n,lk cs (key x) = some n→∃ c,cl.lookup x = some c∧ρ.adr[n]? = some c
 | .rows=>∃ vs:List Value,h.PlainList a vs.toArray∧vs.length≤160∧∀ v∈vs,∃ (n:Nat) (t:Tok),v = .int (n:Int) t∧n < 1024
 | .vals xs=>(a == sysModules) = false∧∃ kvs,h.DictOf (intKind PW C.w) a kvs∧ValsAre ρ h xs kvs
 | .raw cl=>∃ ox vs,h.get? a = some ox∧ox.cls = .ref cl∧ox.data = .fields vs∧ox.dict = none∧vs[1]? = some .none
 | .exc cl d=>∃ ox dx vs,ρ.adr[d]? = some dx∧h.get? a = some ox∧ox.cls = .ref cl∧ox.data = .fields vs∧ox.dict = some dx∧vs[1]? = some .none
 | .stv ws=>(a == sysModules) = false∧∃ kvs,h.DictOf (intKind PW C.w) a kvs∧∀ k v,valueAt kvs k = some v→∃ (w n m:Nat) (t:Addr) (u1 u2 u3:Tok),ws.lookup k = some w∧v = .ref t∧IsTup h t #[.int (w:Int) u1,.int (n:Int) u2,.int (m:Int) u3]∧n < 2 ^ w∧m < 2 ^ w
 | .crl n=>∃ vs:List Value,h.PlainList a vs.toArray∧vs.length = n∧∀ v∈vs,∃ (n:Nat) (t:Tok),v = .int (n:Int) t∧n < 4
 | .prs k=>∃ vs:List Value,h.PlainList a vs.toArray∧vs.length = k∧∀ v∈vs,PairOK h v
 | .one k o=>(a == sysModules) = false∧∃ kvs,h.DictOf (intKind PW C.w) a kvs∧match o with
  | some x=>∃ v,valueAt kvs k = some v∧IsV ρ h x v
  | none=>valueAt kvs k = none
end
theorem DictOf_keep {K:Type} [DecidableEq K] {prog:Program} {w:World} {knd:KeyKind prog w K} {h h':Heap} {a:Addr} {kvs:List (K×Value)} (ha:∀ o,h.get? a = some o→h'.get? a = some o):h.DictOf knd a kvs→h'.DictOf knd a kvs
 | ⟨o,es,ep,e,r⟩=>⟨o,es,ep,ha _ e,r⟩
theorem Ns_keep {h h':Heap} {a:Addr} {mm} (ha:∀ o,h.get? a = some o→h'.get? a = some o):h.Ns a mm→h'.Ns a mm
 | ⟨o,es,ep,e,r⟩=>⟨o,es,ep,ha _ e,r⟩
theorem IsO.mono {C:SC} {ρ ρ':Va} {h h':Heap} {a:Addr} (hp:ρ.le ρ') (hk:TK h h') (ha:∀ o,h.get? a = some o→h'.get? a = some o) :
  ∀ {o:O},IsO C ρ h a o→IsO C ρ' h' a o:=by
 intro o H
 induction o using O.casesOn with
 | cell _=>exact Exists.imp (fun _ H=>⟨Exists.imp (fun _ H=>⟨ha _ H.1,H.2⟩) H.1,fun x q=>(H.2 x q).imp fun _ H=>⟨H.1,H.2.mono hp hk⟩⟩) H
 | list _=>exact Exists.imp (fun _ H=>⟨Exists.imp (fun _ e=>ha _ e) H.1,H.2.mono hp hk⟩) H
 | edict=>exact ⟨H.1,DictOf_keep ha H.2.1,DictOf_keep ha H.2.2⟩
 | sdict _=>exact ⟨H.1,H.2.imp fun _ H=>⟨DictOf_keep ha H.1,H.2.mono hp hk⟩⟩
 | idict _=>exact ⟨H.1,H.2.imp fun _ H=>⟨DictOf_keep ha H.1,H.2.mono hp hk⟩⟩
 | inst _ _=>exact Exists.imp (fun _ H=>H.imp fun _ H=>⟨getpre hp.adr H.1,ha _ H.2.1,H.2.2⟩) H
 | attrs _=>exact Exists.imp (fun _ H=>H.imp fun _ H=>H.imp fun _ H=>H.imp fun _ H=>⟨ha _ H.1,H.2.1,H.2.2.1,H.2.2.2.1,H.2.2.2.2.1,H.2.2.2.2.2.1,H.2.2.2.2.2.2.mono hp hk⟩) H
 | clos _ _ _=>exact Exists.imp (fun _ H=>H.imp fun _ H=>H.imp fun _ H=>H.imp fun _ H=>⟨ha _ H.1,H.2.1,hk.code _ _ H.2.2.1,H.2.2.2.1,fun x n q=>(H.2.2.2.2 x n q).imp fun _ H=>⟨H.1,getpre hp.adr H.2⟩⟩) H
 | rows=>exact Exists.imp (fun _ H=>⟨Exists.imp (fun _ e=>ha _ e) H.1,H.2⟩) H
 | vals _=>exact ⟨H.1,H.2.imp fun _ H=>⟨DictOf_keep ha H.1,fun k x q=>(H.2.1 k x q).imp (fun H=>H.imp fun _ H=>⟨H.1,H.2.mono hp hk⟩) fun H=>⟨H.1,H.2.mono hp⟩,H.2.2⟩⟩
 | raw _=>exact Exists.imp (fun _ H=>H.imp fun _ H=>⟨ha _ H.1,H.2⟩) H
 | exc _ _=>exact Exists.imp (fun _ H=>H.imp fun _ H=>H.imp fun _ H=>⟨getpre hp.adr H.1,ha _ H.2.1,H.2.2⟩) H
 | stv _=>exact ⟨H.1,H.2.imp fun _ H=>⟨DictOf_keep ha H.1,fun k v q=>(H.2 k v q).imp fun _ H=>H.imp fun _ H=>H.imp fun _ H=>H.imp fun _ H=>H.imp fun _ H=>H.imp fun _ H=>H.imp fun _ H=>⟨H.1,H.2.1,hk.tup _ _ H.2.2.1,H.2.2.2⟩⟩⟩
 | crl _=>exact Exists.imp (fun _ H=>⟨Exists.imp (fun _ e=>ha _ e) H.1,H.2⟩) H
 | prs _=>exact Exists.imp (fun _ H=>⟨Exists.imp (fun _ e=>ha _ e) H.1,H.2.1,fun v hv=>(H.2.2 v hv).imp fun _ H=>H.imp fun _ H=>H.imp fun _ H=>⟨H.1,hk.tup _ _ H.2.1,H.2.2⟩⟩) H
 | one _ o =>
  refine ⟨H.1,H.2.imp fun _ H=>⟨DictOf_keep ha H.1,?_⟩⟩
  induction o using Option.casesOn with
  | none=>exact H.2
  | some _=>exact Exists.imp (fun _ H=>⟨H.1,H.2.mono hp hk⟩) H.2
structure Fm where
 fs:List Env
 L:Addr
 fr:List (Addr×List (Nat×V))
 held:List (Addr×Obj)
structure Off (C:SC) (ρ:Va) (h:Heap) (a:Addr):Prop where
 adr:a ∉ ρ.adr
 h0:C.h0.get? a = none
 live:∃ o,h.get? a = some o
 base:C.base.get? a = none
structure Tab (C:SC) (h:Heap):Prop where
 tab:∃ ps,h.get? C.P = some (tabObj ps)∧TriplesOk ps.toList∧∀ pos cv,codeAmong pos ps.toList = some cv→h.CodeRec cv C.lq
structure Rel (C:SC) (F:Fm) (ρ:Va) (σ:St) (s:Shared):Prop where
 keep:∀ a o,C.h0.get? a = some o→a≠C.P→s.heap.get? a = some o
 fresh:∀ a∈ρ.adr,C.h0.get? a = none
 nodup:ρ.adr.Nodup
 live:∀ a∈ρ.adr,∃ o,s.heap.get? a = some o
 nxt:σ.nxt = ρ.adr.length
 syn:σ.syn = ρ.sym.length
 led:∀ n o,σ.at n = some o→∃ a,ρ.adr[n]? = some a∧IsO C ρ s.heap a o
 cur:Off C ρ s.heap F.L∧∃ mm,s.heap.Ns F.L mm∧NsHas ρ s.heap σ.cur mm
 fr:∀ p∈F.fr,(Off C ρ s.heap p.1∧p.1≠F.L)∧∃ mm,s.heap.Ns p.1 mm∧NsHas ρ s.heap p.2 mm
 held:∀ p∈F.held,Off C ρ s.heap p.1∧p.1≠F.L∧(∀ q∈F.fr,p.1≠q.1)∧s.heap.get? p.1 = some p.2
 tab:Tab C s.heap
 gens:s.gens = C.gens
 os:s.os = C.os
 frames:s.heap.FunFrames C.h0 F.fs
 fsL:∀ env∈F.fs,∀ b,env.frame = some b→b = F.L∨∃ p∈F.fr,b = p.1
 bk:∀ a o,C.base.get? a = some o→s.heap.get? a = some o
 bn:∀ n a,ρ.adr[n]? = some a→σ.fz≤n→C.base.get? a = none
theorem Off.mono {C:SC} {ρ:Va} {h h':Heap} {a:Addr} (x:Off C ρ h a) (k:∀ o,h.get? a = some o→h'.get? a = some o):Off C ρ h' a:=⟨x.adr,x.h0,x1a1 (x.live) fun o e=>⟨o,k _ e⟩,x.base⟩
section
variable {C:SC} {F:Fm} {ρ:Va} {σ:St} {s s':Shared}
theorem Rel.of (R:Rel C F ρ σ s) (hh:s'.heap = s.heap) (hg:s'.gens = s.gens) (ho:s'.os = s.os):Rel C F ρ σ s' :=
 ⟨hh▸R.keep,R.fresh,R.nodup,hh▸R.live,R.nxt,R.syn,hh▸R.led,hh▸R.cur,hh▸R.fr,hh▸R.held,hh▸R.tab,hg.trans R.gens,ho.trans R.os,hh▸R.frames,R.fsL,hh▸R.bk,R.bn⟩
theorem Rel.toks (R:Rel C F ρ σ s) (t:Nat):Rel C F ρ σ { s with toks:=t }:=R.of rfl rfl rfl
theorem Rel.junk {b:Addr} (R:Rel C F ρ σ s) (k:∀ a o,a≠b→s.heap.get? a = some o→s'.heap.get? a = some o) (tk:TK s.heap s'.heap) (h0:C.h0.get? b = none) (hP:b≠C.P) (hb:b ∉ ρ.adr) (hL:b≠F.L)
  (hf:∀ p∈F.fr,b≠p.1) (hh:∀ p∈F.held,b≠p.1) (hfs:∀ env∈F.fs,env.frame≠some b) (hb0:C.base.get? b = none) (hg:s'.gens = s.gens) (ho:s'.os = s.os):Rel C F ρ σ s' where
 bk:=fun a o e=>k _ _ (fun q=>by rw [q,hb0] at e;exact nS' e) (R.bk a o e)
 bn:=R.bn
 keep:=fun a o e n=>k _ _ (fun q=>by rw [q,h0] at e;exact nS' e) (R.keep a o e n)
 fresh:=R.fresh
 nodup:=R.nodup
 live:=fun a ha=>x1a1 (R.live a ha) fun o e=>⟨o,k _ _ (fun q=>hb (q▸ha)) e⟩
 nxt:=R.nxt
 syn:=R.syn
 led:=fun n o e=>x1a2 (R.led n o e) fun a p q=>⟨a,p,q.mono (Va.le.refl _) tk fun o e=>k _ _ (fun z=>hb (z▸List.mem_of_getElem? p)) e⟩
 cur:=y12 (R.cur) fun a mm n m=>⟨a.mono fun o e=>k _ _ (Ne.symm hL) e,mm,Ns_keep (fun o e=>k _ _ (Ne.symm hL) e) n,m.mono (Va.le.refl _) tk⟩
 fr:=fun p hp=>y22 (R.fr p hp) fun a b mm n m=>⟨⟨a.mono fun o e=>k _ _ (Ne.symm (hf p hp)) e,b⟩,mm,Ns_keep (fun o e=>k _ _ (Ne.symm (hf p hp)) e) n,m.mono (Va.le.refl _) tk⟩
 held:=fun p hp=>x0a4 (R.held p hp) fun a b c d=>⟨a.mono fun o e=>k _ _ (Ne.symm (hh p hp)) e,b,c,k _ _ (Ne.symm (hh p hp)) d⟩
 tab:=x1a3 (R.tab.tab) fun ps a b c=>⟨⟨ps,k _ _ (Ne.symm hP) a,b,fun pos cv e=>tk.code _ _ (c pos cv e)⟩⟩
 gens:=hg.trans R.gens
 os:=ho.trans R.os
 frames:=by
  have:∀ l,(∀ env∈l,env.frame≠some b)→s.heap.FunFrames C.h0 l→s'.heap.FunFrames C.h0 l:=by
   intro l
   induction l with
   | nil=>exact fun _ _=>trivial
   | cons env r ih =>
    (intro hn hz;refine x0a3 hz fun hk hm hr=>?_;refine x2a4 hm fun L ob hf hn' hob hd=>?_;clear hz hm)
    exact ⟨hk,⟨L,ob,hf,hn',k _ _ (fun q=>hn env (.head _) (q▸hf)) hob,hd⟩,ih (fun e he=>hn e (.tail _ he)) hr⟩
  exact this _ hfs R.frames
 fsL:=R.fsL
theorem Rel.grow (R:Rel C F ρ σ s) (k:∀ b o,s.heap.get? b = some o→s'.heap.get? b = some o) (hg:s'.gens = s.gens) (ho:s'.os = s.os):Rel C F ρ σ s' where
 bk:=fun a o e=>k _ _ (R.bk a o e)
 bn:=R.bn
 keep:=fun a o e n=>k _ _ (R.keep a o e n)
 fresh:=R.fresh
 nodup:=R.nodup
 live:=fun a ha=>x1a1 (R.live a ha) fun o e=>⟨o,k _ _ e⟩
 nxt:=R.nxt
 syn:=R.syn
 led:=fun n o e=>x1a2 (R.led n o e) fun a p q=>⟨a,p,q.mono (Va.le.refl _) (TK.keeps k) fun o e=>k _ _ e⟩
 cur:=y12 (R.cur) fun a mm n m=>⟨a.mono fun o e=>k _ _ e,mm,Ns_keep (fun o e=>k _ _ e) n,m.mono (Va.le.refl _) (TK.keeps k)⟩
 fr:=fun p hp=>y22 (R.fr p hp) fun a b mm n m=>⟨⟨a.mono fun o e=>k _ _ e,b⟩,mm,Ns_keep (fun o e=>k _ _ e) n,m.mono (Va.le.refl _) (TK.keeps k)⟩
 held:=fun p hp=>x0a4 (R.held p hp) fun a b c d=>⟨a.mono fun o e=>k _ _ e,b,c,k _ _ d⟩
 tab:=x1a3 (R.tab.tab) fun ps a b c=>⟨⟨ps,k _ _ a,b,fun pos cv e=>(c pos cv e).keeps k⟩⟩
 gens:=hg.trans R.gens
 os:=ho.trans R.os
 frames:=R.frames.of_keeps fun b o e _=>⟨o,k b o e,rfl⟩
 fsL:=R.fsL
theorem St.at_new {σ:St} {o:O} {n:Nat}:(σ.new o).at n = if σ.nxt = n then some o else σ.at n:=lk_cons
theorem St.at_put {σ:St} {o:O} {n m:Nat}:(σ.put n o).at m = if m = n then some o else σ.at m:=lk_up
theorem Off.more {h:Heap} {a b:Addr} (x:Off C ρ h b) (hne:b≠a):Off C ⟨ρ.adr++[a],ρ.sym⟩ h b:=⟨fun q=>(List.mem_append.mp q).elim x.adr fun q=>hne (List.mem_singleton.mp q),x.h0,x.live,x.base⟩
theorem le_more (ρ:Va) (a:Addr):ρ.le ⟨ρ.adr++[a],ρ.sym⟩:=⟨List.prefix_append _ _,List.prefix_refl _⟩
theorem Rel.add {o:O} {a:Addr} (R:Rel C F ρ σ s) (k:∀ b o,s.heap.get? b = some o→s'.heap.get? b = some o) (hn:s.heap.get? a = none) (h0:C.h0.get? a = none) (hl:∃ o,s'.heap.get? a = some o)
  (H:IsO C ⟨ρ.adr++[a],ρ.sym⟩ s'.heap a o) (hg:s'.gens = s.gens) (ho:s'.os = s.os):Rel C F ⟨ρ.adr++[a],ρ.sym⟩ (σ.new o) s':=by
 have R':=R.grow k hg ho
 have hne:∀ b,Off C ρ s.heap b→b≠a:=fun b x q=>by refine x1a1 (x.live :) fun o' e=>?_;rw [q,hn] at e;exact nS' e
 have le:=le_more ρ a
 have ha0:C.base.get? a = none:=by
  induction q:C.base.get? a using Option.casesOn with
  | none=>rfl
  | some o'=>rw [R.bk _ _ q] at hn;exact sN' hn
 exact {
  bk:=R'.bk
  bn:=fun n b e hz=>by
   by_cases q:n < ρ.adr.length
   ·rw [List.getElem?_append_left q] at e
    exact R.bn n b e hz
   ·rw [List.getElem?_append_right (by lia)] at e
    have:n - ρ.adr.length = 0:=by
     cases hd:n - ρ.adr.length with
     | zero=>rfl
     | succ k=>rw [hd] at e;simp at e
    rw [this] at e;simp at e;rw [← e];exact ha0
  keep:=R'.keep
  fresh:=fun b hb=>by
   rcases List.mem_append.mp hb with hb | hb
   ·exact R.fresh b hb
   ·obtain rfl:=List.mem_singleton.mp hb;exact h0
  nodup:=by
   refine List.nodup_append.mpr ⟨R.nodup,List.nodup_cons.mpr ⟨by simp,List.nodup_nil⟩,fun x hx y hy q=>?_⟩
   obtain rfl:=List.mem_singleton.mp hy
   subst q
   refine x1a1 (R.live _ hx :) fun o' e=>?_
   rw [hn] at e;exact nS' e
  live:=fun b hb=>by
   rcases List.mem_append.mp hb with hb | hb
   ·exact R'.live b hb
   ·obtain rfl:=List.mem_singleton.mp hb;exact hl
  nxt:=by show σ.nxt + 1 = _;rw [R.nxt];simp
  syn:=R.syn
  led:=fun n o' e=>by
   rw [St.at_new] at e
   by_cases q:σ.nxt = n
   ·rw [if_pos q] at e;(refine jS e fun j=>?_;clear e;subst j)
    refine ⟨a,?_,H⟩
    rw [← q,R.nxt];simp
   ·rw [if_neg q] at e
    refine x1a2 (R'.led n o' e :) fun b p r=>?_
    exact ⟨b,getpre le.adr p,r.mono le (TK.refl _) fun o e=>e⟩
  cur:=y12 (R'.cur) fun x mm n m=>⟨x.more (hne _ R.cur.1),mm,n,m.mono le (TK.refl _)⟩
  fr:=fun p hp=>y22 (R'.fr p hp) fun x y mm n m=>⟨⟨x.more (hne _ (R.fr p hp).1.1),y⟩,mm,n,m.mono le (TK.refl _)⟩
  held:=fun p hp=>x0a2 (R'.held p hp) fun x y=>⟨x.more (hne _ (R.held p hp).1),y⟩
  tab:=R'.tab
  gens:=R'.gens
  os:=R'.os
  frames:=R'.frames
  fsL:=R'.fsL }
theorem idx_inj {l:List Addr} (hn:l.Nodup) {n m:Nat} {a:Addr} (e:l[n]? = some a) (e':l[m]? = some a):n = m:=by
 refine x1a1 (List.getElem?_eq_some_iff.mp e :) fun h1 h2=>?_
 refine x1a1 (List.getElem?_eq_some_iff.mp e' :) fun h3 h4=>?_
 have P:=List.pairwise_iff_getElem.mp hn
 rcases Nat.lt_trichotomy n m with q | q | q
 ·exact absurd (h2.trans h4.symm) (P n m h1 h3 q)
 ·exact q
 ·exact absurd (h4.trans h2.symm) (P m n h3 h1 q)
theorem SC.off_P {C:SC} {a:Addr} (e:C.h0.get? a = none):a≠C.P:=fun q=>by
 refine x1a1 (C.hP :) fun o h=>?_
 rw [← q,e] at h;exact nS' h
theorem Rel.frame_mem (R:Rel C F ρ σ s) {env:Env} (he:env∈F.fs) {b:Addr} (hf:env.frame = some b):b = F.L∨∃ p∈F.fr,b = p.1:=R.fsL env he b hf
theorem Rel.turn {n:Nat} {o':O} {a:Addr} (R:Rel C F ρ σ s) (ha:ρ.adr[n]? = some a) (hz:σ.fz≤n) (k:∀ b o,b≠a→s.heap.get? b = some o→s'.heap.get? b = some o) (tk:TK s.heap s'.heap)
  (hl:∃ o,s'.heap.get? a = some o) (H:IsO C ρ s'.heap a o') (hg:s'.gens = s.gens) (ho:s'.os = s.os):Rel C F ρ (σ.put n o') s':=by
 have hm:=List.mem_of_getElem? ha
 have h0:=R.fresh a hm
 have hoff:∀ b,Off C ρ s.heap b→b≠a:=fun b x q=>x.adr (q▸hm)
 have ko:∀ b,Off C ρ s.heap b→∀ o,s.heap.get? b = some o→s'.heap.get? b = some o:=fun b x o e=>k _ _ (hoff b x) e
 exact {
  bk:=fun b ob e=>k _ _ (fun z=>by rw [z,R.bn n a ha hz] at e;exact nS' e) (R.bk b ob e)
  bn:=R.bn
  keep:=fun b ob e q=>k _ _ (fun z=>by rw [z,h0] at e;exact nS' e) (R.keep b ob e q)
  fresh:=R.fresh
  nodup:=R.nodup
  live:=fun b hb=>by
   by_cases q:b = a
   ·subst q;exact hl
   ·exact x1a1 (R.live b hb) fun o e=>⟨o,k _ _ q e⟩
  nxt:=R.nxt
  syn:=R.syn
  led:=fun m om e=>by
   rw [St.at_put] at e
   by_cases q:m = n
   ·rw [if_pos q] at e
    (refine jS e fun j=>?_;clear e;subst j);subst q
    exact ⟨a,ha,H⟩
   ·rw [if_neg q] at e
    refine x1a2 (R.led m om e :) fun b p r=>?_
    refine ⟨b,p,r.mono (Va.le.refl _) tk fun o e=>k _ _ (fun z=>?_) e⟩
    subst z
    exact q (idx_inj R.nodup p ha)
  cur:=y12 (R.cur) fun x mm n m=>⟨x.mono (ko _ x),mm,Ns_keep (ko _ x) n,m.mono (Va.le.refl _) tk⟩
  fr:=fun p hp=>y22 (R.fr p hp) fun x y mm n m=>⟨⟨x.mono (ko _ x),y⟩,mm,Ns_keep (ko _ x) n,m.mono (Va.le.refl _) tk⟩
  held:=fun p hp=>x0a4 (R.held p hp) fun x y z w=>⟨x.mono (ko _ x),y,z,ko _ x _ w⟩
  tab:=x1a3 (R.tab.tab) fun ps x y z=>⟨⟨ps,k _ _ (Ne.symm (C.off_P h0)) x,y,fun pos cv e=>tk.code _ _ (z pos cv e)⟩⟩
  gens:=hg.trans R.gens
  os:=ho.trans R.os
  frames:=by
   have:∀ l,(∀ env∈l,∀ b,env.frame = some b→b≠a)→s.heap.FunFrames C.h0 l→s'.heap.FunFrames C.h0 l:=by
    intro l
    induction l with
    | nil=>exact fun _ _=>trivial
    | cons env r ih =>
     (intro hn hz;refine x0a3 hz fun hk hm hr=>?_;refine x2a4 hm fun L ob hf hn' hob hd=>?_;clear hz hm)
     exact ⟨hk,⟨L,ob,hf,hn',k _ _ (hn env (.head _) L hf) hob,hd⟩,ih (fun e he=>hn e (.tail _ he)) hr⟩
   refine this _ (fun env he b hb=>?_) R.frames
   rcases R.frame_mem he hb with q | ⟨p,hp,q⟩
   ·exact q▸hoff _ R.cur.1
   ·exact q▸hoff _ (R.fr p hp).1.1
  fsL:=R.fsL }
theorem Rel.store {x:Str} {v:V} {vv:Value} {h':Heap} {t:Tok} (R:Rel C F ρ σ s) {mm:Str→Option Value} (hN:s.heap.Ns F.L mm) (hM:NsHas ρ s.heap σ.cur mm) (hn:h'.Ns F.L (fun y=>if y = x then some vv else mm y)) (hs:Heap.SameBut F.L s.heap h')
  (hv:IsV ρ s.heap v vv):Rel C F ρ (σ.set (key x) v) { s with heap:=h',toks:=t }:=by
 have k:∀ b o,b≠F.L→s.heap.get? b = some o→h'.get? b = some o:=fun b o q e=>(hs.2 b q).trans e
 refine x3a3 hN fun oL es ep eL dL rL=>?_;clear hN
 have tk:TK s.heap h':=by
  refine ⟨fun b items hz=>x1a3 hz fun o ho hc hz=>x1a1 hz fun n hd=>⟨o,k _ _ (fun q=>?_) ho,hc,n,hd⟩,fun cv q hz=>x4a4 hz fun c o vs t e g d r=>⟨c,o,vs,t,e,k _ _ (fun z=>?_) g,d,r⟩⟩
  ·rw [q,eL] at ho;(refine jS ho fun j=>?_;clear ho;subst j);rw [dL] at hd;cases hd
  ·rw [z,eL] at g;(refine jS g fun j=>?_;clear g;subst j);rw [dL] at d;cases d
 have hoff:∀ b∈ρ.adr,b≠F.L:=fun b hb q=>R.cur.1.adr (q▸hb)
 have hlive:∃ o,h'.get? F.L = some o:=x3a2 (hn) fun o _ _ e _=>⟨o,e⟩
 exact {
  bk:=fun b ob e=>k _ _ (fun z=>by rw [z,R.cur.1.base] at e;exact nS' e) (R.bk b ob e)
  bn:=R.bn
  keep:=fun b ob e q=>k _ _ (fun z=>by rw [z,R.cur.1.h0] at e;exact nS' e) (R.keep b ob e q)
  fresh:=R.fresh
  nodup:=R.nodup
  live:=fun b hb=>x1a1 (R.live b hb) fun o e=>⟨o,k _ _ (hoff b hb) e⟩
  nxt:=R.nxt
  syn:=R.syn
  led:=fun m om e=>x1a2 (R.led m om e) fun b p r=>⟨b,p,r.mono (Va.le.refl _) tk fun o e=>k _ _ (hoff b (List.mem_of_getElem? p)) e⟩
  cur:=⟨⟨R.cur.1.adr,R.cur.1.h0,hlive,R.cur.1.base⟩,_,hn,(hM.mono (Va.le.refl _) tk).up (hv.mono (Va.le.refl _) tk)⟩
  fr:=fun p hp=>y22 (R.fr p hp) fun x y mm n m=>⟨⟨x.mono fun o e=>k _ _ y e,y⟩,mm,Ns_keep (fun o e=>k _ _ y e) n,m.mono (Va.le.refl _) tk⟩
  held:=fun p hp=>x0a4 (R.held p hp) fun x y z w=>⟨x.mono fun o e=>k _ _ y e,y,z,k _ _ y w⟩
  tab:=x1a3 (R.tab.tab) fun ps x y z=>⟨⟨ps,k _ _ (Ne.symm (C.off_P R.cur.1.h0)) x,y,fun pos cv e=>tk.code _ _ (z pos cv e)⟩⟩
  gens:=R.gens
  os:=R.os
  frames:=by
   have:∀ l,s.heap.FunFrames C.h0 l→h'.FunFrames C.h0 l:=by
    intro l
    induction l with
    | nil=>exact fun _=>trivial
    | cons env r ih =>
     (intro hz;refine x0a3 hz fun hk hm hr=>?_;refine x2a4 hm fun L ob hf hn' hob hd=>?_;clear hz hm)
     refine ⟨hk,?_,ih hr⟩
     by_cases q:L = F.L
     ·subst q
      refine x3a3 hn fun o2 es2 ep2 e2 d2 _=>?_;clear hn
      exact ⟨_,o2,hf,hn',e2,fun vs z=>by rw [d2] at z;cases z⟩
     ·exact ⟨L,ob,hf,hn',k _ _ q hob,hd⟩
   exact this _ R.frames
  fsL:=R.fsL }
theorem le_sym (ρ:Va) (v:Value):ρ.le ⟨ρ.adr,ρ.sym++[v]⟩:=⟨List.prefix_refl _,List.prefix_append _ _⟩
theorem Rel.sym (R:Rel C F ρ σ s) (v:Value):Rel C F ⟨ρ.adr,ρ.sym++[v]⟩ { σ with syn:=σ.syn + 1 } s where
 bk:=R.bk
 bn:=R.bn
 keep:=R.keep
 fresh:=R.fresh
 nodup:=R.nodup
 live:=R.live
 nxt:=R.nxt
 syn:=by show σ.syn + 1 = _;rw [R.syn];simp
 led:=fun n o e=>x1a2 (R.led n o e) fun a p q=>⟨a,p,q.mono (le_sym _ _) (TK.refl _) fun o e=>e⟩
 cur:=y12 (R.cur) fun x mm n m=>⟨⟨x.adr,x.h0,x.live,x.base⟩,mm,n,m.mono (le_sym _ _) (TK.refl _)⟩
 fr:=fun p hp=>y22 (R.fr p hp) fun x y mm n m=>⟨⟨⟨x.adr,x.h0,x.live,x.base⟩,y⟩,mm,n,m.mono (le_sym _ _) (TK.refl _)⟩
 held:=fun p hp=>x0a2 (R.held p hp) fun x y=>⟨⟨x.adr,x.h0,x.live,x.base⟩,y⟩
 tab:=R.tab
 gens:=R.gens
 os:=R.os
 frames:=R.frames
 fsL:=R.fsL
end
end Mine
end
section
namespace Mine
theorem lk_kindsOf {sc:Scope} {x:Str}:lk (kindsOf sc) (key x) = sc.names.lookup x:=lookup_kinds
structure EnvOK (C:SC) (A:Around) (F:Fm) (env:Env) (ks:Kd) (v:Ve) (ρ:Va):Prop where
 glob:env.globals = mainGlobals∧env.builtins = builtinsNs
 loc:env.locals = F.L
 kind:env.scope.kind = .function
 ks:ks = kindsOf env.scope
 cells:∀ x n,lk v.cells (key x) = some n→∃ c,env.cells.lookup x = some c∧ρ.adr[n]? = some c
 frames:A.frames = some F.fs
 hand:A.handled = none
 depth:A.depth≤2 + claimMargin + 3 * v.dep
 units:A.units≤20 + 20 * v.dep
 dep:v.dep≤60
 law:v.dep = 1→∃ c,env.code = .ref c∧CodeHd C.h0 c C.P∧env.qual++"<lambda>" = C.lq
theorem EnvOK.mono {C:SC} {A:Around} {F:Fm} {env:Env} {ks:Kd} {v:Ve} {ρ ρ':Va} (H:EnvOK C A F env ks v ρ) (hp:ρ.le ρ'):EnvOK C A F env ks v ρ' :=
 { H with cells:=fun x n e=>x1a2 (H.cells x n e) fun c a b=>⟨c,a,getpre hp.adr b⟩ }
theorem EnvOK.kindOf {C:SC} {A:Around} {F:Fm} {env:Env} {ks:Kd} {v:Ve} {ρ:Va} (H:EnvOK C A F env ks v ρ) {x:Str} {k:NameKind} (e:lk ks (key x) = some k):env.kindOf x = some k:=by
 rw [H.ks,lk_kindsOf] at e
 exact e
structure ClsOK (K:Frag) (c:Addr) (cl:Cl):Prop where
 dict:hasDictIn K c = true
 get:cl.exc = false→findIn K (.ref c) "__getattribute__" = some (some (.builtin "object.__getattribute__"))
 noget:cl.exc = false→findIn K (.ref c) "__getattr__" = some none
 set:findIn K (.ref c) "__setattr__" = some (some (.builtin "object.__setattr__"))
 refuse:∃ cd,clsIn K c = some cd∧cd.hasDict = true∧cd.mro.isEmpty = false∧cd.mro.contains (.type "object") = true∧∀ self,refuseLoop self "__setattr__" cd.mro = pure ()
 plain:∀ x,hasN cl.attrs (key x) = true→findIn K (.ref c) x = some none
 meth:cl.exc = false→∀ x f,lk cl.meths (key x) = some f→findIn K (.ref c) x = some (some (.ref f))∧isFn K (.ref f) = true∧fnIn K f = true
structure ClsPlain (K:Frag) (c:Addr) (cl:Cl):Prop where
 makes:makesIn K c = true
 init:findIn K (.ref c) "__init__" = some (some (.ref cl.init))∧typeIn K (.ref cl.init) = some (.type "function")
structure Gr (C:SC) (T:Tk) where
 cls:∀ c cl,T.tx.cls.get c = some cl→ClsOK C.K c cl
 nValues:T.kValues = key "values"
 nGet:T.kGet = key "get"
 nSet:T.kSet = key "set_bits"
 nAppend:T.kAppend = key "append"
 nPop:T.kPop = key "pop"
 nKind:T.kKind = key "kind"
 mg:Str→Option Value
 mb:Str→Option Value
 X:C.K.In C.h0
 noP:C.K.lookup C.P = none
 g:C.h0.Ns mainGlobals mg
 gP:mainGlobals≠C.P
 b:C.h0.Ns builtinsNs mb
 bP:builtinsNs≠C.P
 lim:C.h0.NoLimit
 bAt:C.h0.BuiltinsAt mg C.P
 pmE:C.pm = (mg "__name__").getD .none
 limP:cStatics≠C.P
 glob:∀ x v,T.tx.glob.get (key x) = some v→(x == ("__debug__":Str)) = false∧∃ vv,(∀ ρ h,IsV ρ h v vv)∧(mg x = some vv∨(mg x = none∧mb x = some vv))
section
variable {C:SC} {T:Tk} {F:Fm} {ρ:Va} {σ:St} {s:Shared}
theorem Gr.gs (G:Gr C T) (R:Rel C F ρ σ s):s.heap.Ns mainGlobals G.mg:=x3a2 (G.g) fun o es ep e r=>⟨o,es,ep,R.keep _ _ e G.gP,r⟩
theorem Gr.bs (G:Gr C T) (R:Rel C F ρ σ s):s.heap.Ns builtinsNs G.mb:=x3a2 (G.b) fun o es ep e r=>⟨o,es,ep,R.keep _ _ e G.bP,r⟩
theorem Gr.Xs (G:Gr C T) (R:Rel C F ρ σ s):C.K.In s.heap:=fun a o e=>R.keep a o (G.X a o e) fun q=>by rw [q,G.noP] at e;exact nS' e
theorem Gr.lims (G:Gr C T) (R:Rel C F ρ σ s):s.heap.NoLimit:=let ⟨mc,⟨o,es,ep,e,r⟩,n⟩:=G.lim;⟨mc,⟨o,es,ep,R.keep _ _ e G.limP,r⟩,n⟩
end
structure Next (C:SC) (F:Fm) (ρ:Va) (h:Heap) (ρ':Va) (σ':St) (s':Shared):Prop where
 pre:ρ.le ρ'
 tk:TK h s'.heap
 rel:Rel C F ρ' σ' s'
section
variable {C:SC} {F:Fm} {ρ ρ' ρ'':Va} {h:Heap} {σ σ' σ'':St} {s s' s'':Shared}
theorem Next.trans (x:Next C F ρ h ρ' σ' s') (y:Next C F ρ' s'.heap ρ'' σ'' s''):Next C F ρ h ρ'' σ'' s'':=⟨x.pre.trans y.pre,x.tk.trans y.tk,y.rel⟩
theorem Next.here (R:Rel C F ρ σ s):Next C F ρ s.heap ρ σ s:=⟨Va.le.refl _,TK.refl _,R⟩
theorem Next.tok (R:Rel C F ρ σ s) (t:Nat):Next C F ρ s.heap ρ σ { s with toks:=t }:=⟨Va.le.refl _,TK.refl _,R.toks t⟩
end
noncomputable def Flies (C:SC) (F:Fm) (ρ:Va) (h:Heap) (a:Addr):Prop :=
 ∃ ox vs,h.get? a = some ox∧ox.data = .fields vs∧1 < vs.size∧(vs[1]? = some .none∨∃ T oT ts x,vs[1]? = some (.ref T)∧Off C ρ h T∧T≠F.L∧(∀ q∈F.fr,T≠q.1)∧(∀ q∈F.held,T≠q.1)∧h.get? T = some oT∧oT.data = .fields ts ∧
  (∀ q t,ts[1]?≠some (.str q t))∧oT.cls≠.type "tuple"∧ts[3]? = some x∧(x = .none∨x = rawInt F.L))
noncomputable def ExcIs (C:SC) (F:Fm) (ρ:Va) (σ:St) (h:Heap) (u:V) (e:Value):Prop:=∃ n a,u = .loc n∧e = .ref a∧(∃ c d,σ.at n = some (.inst c d))∧ρ.adr[n]? = some a∧C.base.get? a = none∧Flies C F ρ h a
noncomputable def GoQ (C:SC) (F:Fm) (ρ:Va) (h:Heap) (κ:KX) (Q:Value→Shared→Prop):Prop :=
 ∀ ρ' σ' s' x v,κ x σ' = true→Next C F ρ h ρ' σ' s'→IsV ρ' s'.heap x v→Q v s'
noncomputable def GoB (C:SC) (F:Fm) (ρ:Va) (h:Heap) (κ:KB) (Q:Bool→Shared→Prop):Prop :=
 ∀ ρ' σ' s' b,κ b σ' = true→Next C F ρ h ρ' σ' s'→Q b s'
noncomputable def GoL (C:SC) (F:Fm) (ρ:Va) (h:Heap) (κ:KL) (Q:List Value→Shared→Prop):Prop :=
 ∀ ρ' σ' s' x v,κ x σ' = true→Next C F ρ h ρ' σ' s'→IsVs ρ' s'.heap x v→Q v s'
noncomputable def GoE (C:SC) (F:Fm) (ρ:Va) (h:Heap) (ε:KX) (E:Value→Shared→Prop):Prop :=
 ∀ ρ' σ' s' u e,ε u σ' = true→Next C F ρ h ρ' σ' s'→ExcIs C F ρ' σ' s'.heap u e→E e s'
section
variable {C:SC} {F:Fm} {ρ ρ':Va} {h:Heap} {σ':St} {s':Shared}
theorem GoQ.next {κ:KX} {Q:Value→Shared→Prop} (H:GoQ C F ρ h κ Q) (N:Next C F ρ h ρ' σ' s'):GoQ C F ρ' s'.heap κ Q:=fun _ _ _ _ _ a b c=>H _ _ _ _ _ a (N.trans b) c
theorem GoB.next {κ:KB} {Q:Bool→Shared→Prop} (H:GoB C F ρ h κ Q) (N:Next C F ρ h ρ' σ' s'):GoB C F ρ' s'.heap κ Q:=fun _ _ _ _ a b=>H _ _ _ _ a (N.trans b)
theorem GoE.next {ε:KX} {E:Value→Shared→Prop} (H:GoE C F ρ h ε E) (N:Next C F ρ h ρ' σ' s'):GoE C F ρ' s'.heap ε E:=fun _ _ _ _ _ a b c=>H _ _ _ _ _ a (N.trans b) c
end
noncomputable def WX (C:SC) (ks:Kd) (e:PySem.Expr) (f:Ve→St→KX→KX→Bool):Prop :=
 ∀ v σ κ ε,f v σ κ ε = true→∀ A F env ρ s Q E,EnvOK C A F env ks v ρ→Rel C F ρ σ s→GoQ C F ρ s.heap κ Q→GoE C F ρ s.heap ε E→wpAny (model PW C.w) A (eval e env) Q E s
noncomputable def WT (C:SC) (ks:Kd) (e:PySem.Expr) (f:Ve→St→KB→KX→Bool):Prop :=
 ∀ v σ κ ε,f v σ κ ε = true→∀ A F env ρ s Q E,EnvOK C A F env ks v ρ→Rel C F ρ σ s→GoB C F ρ s.heap κ Q→GoE C F ρ s.heap ε E→wpAny (model PW C.w) A (isTrue e env (eval e env)) Q E s
structure WC (C:SC) (ks:Kd) (r:Rc) (e:PySem.Expr) (c:Mine.C):Prop where
 x:WX C ks e (c.x r)
 t:WT C ks e (c.t r)
theorem hasO_ok {S:List Value}:∀ {l:List Bt} {m:Nat},hasO l = true→IsBts S l m→m≠0:=by
 intro l m h q
 induction q with
 | nil=>exact ft' h
 | @cons b x l m a r ih =>
  induction a with
  | o=>lia
  | z=>have:=ih h;lia
  | s _=>have:=ih h;lia
theorem allZ_ok {S:List Value}:∀ {l:List Bt} {m:Nat},allZ l = true→IsBts S l m→m = 0:=by
 intro l m h q
 induction q with
 | nil=>rfl
 | @cons b x l m a r ih =>
  induction a with
  | z=>rw [ih h]
  | o=>exact ft' h
  | s _=>exact ft' h
set_option tactic.hygienic true in
theorem truthB_ok {S:List Value} {l:List Bt} {m:Nat} {b:Bool} (h:truthB l = some b) (hb:IsBts S l m):b = ((m:Int) != 0):=by
 unfold truthB at h
 (revert h;refine mB (fun _ h=>?_) fun _ h=>?_)
 ·rename_i q;(refine jS h fun j=>?_;clear h;subst j);have:=hasO_ok q hb;symm;simp;lia
 ·(revert h;refine mB (fun _ h=>?_) fun _ h=>?_)
  ·rename_i q;(refine jS h fun j=>?_;clear h;subst j);rw [allZ_ok q hb];rfl
  ·exact nS' h
theorem testV_some {u:V} {σ:St} {κ:KB} {b:Bool} (h:testV u σ κ = true) (e:truthV u σ = some b):κ b σ = true:=by unfold testV at h;rw [e] at h;exact h
theorem testV_none {u:V} {σ:St} {κ:KB} (h:testV u σ κ = true) (e:truthV u σ = none) (f:forkV u σ κ = false):False:=by unfold testV at h;rw [e] at h;exact ft (f.symm.trans h)
theorem truthV_at0 {n:Nat} {σ:St} (e:σ.at n = none):truthV (.loc n) σ = none:=by show (match σ.at n with | some o=>(match o with | .list l=>truthL l | _=>none) | none=>none) = _;rw [e]
theorem truthV_at {n:Nat} {σ:St} {o:O}:σ.at n = some o→truthV (.loc n) σ = (match o with | .list l=>truthL l | _=>none):=by intro e;show (match σ.at n with | some o=>(match o with | .list l=>truthL l | _=>none) | none=>none) = _;rw [e]
set_option tactic.hygienic true in
theorem truthV_ok {C:SC} {F:Fm} {ρ:Va} {σ:St} {s:Shared} {A:Around} {u:V} {v:Value} {κ:KB} {Q:Bool→Shared→Prop} {E:Value→Shared→Prop}
  (h:testV u σ κ = true) (R:Rel C F ρ σ s) (hv:IsV ρ s.heap u v) (G:GoB C F ρ s.heap κ Q):wpAny (model PW C.w) A (truthy v) Q E s:=by
 have bools:∀ (b:Bool),κ b σ = true→Q b s:=fun b e=>G _ _ _ _ e (.here R)
 have toks:∀ (b:Bool) t,κ b σ = true→Q b { s with toks:=t }:=fun b t e=>G _ _ _ _ e (.tok R t)
 have fits:∀ {l:List V} {vs:List Value} {b:Bool},IsVs ρ s.heap l vs→truthL l = some b→((vs.toArray.size:Int) < 2 ^ 63∧b = !vs.toArray.isEmpty):=by
  intro l vs b hl e
  unfold truthL fitsN at e
  rw [len_eq,hl.length] at e
  (revert e;refine mB (fun _ e=>?_) fun _ e=>?_)
  ·rename_i q
   (refine jS e fun j=>?_;clear e;subst j)
   have q':=Nat.le_of_ble_eq_true q
   refine ⟨by simp;lia,?_⟩
   rw [beqN]
   induction vs using List.casesOn with
   | nil=>rfl
   | cons a r=>simp [notB]
  ·exact nS' e
 induction hv using IsV.casesOn with
 | none=>exact truthy_none (bools _ h)
 | bool=>exact wpAny_truthy_bool (bools _ h)
 | @int i t =>
  refine P.truthy_int (bools _ ?_)
  have:(i != 0) = notB (beqI i 0):=by rw [beqI_eq];by_cases q:i = 0 <;> simp [q,notB]
  rw [this];exact h
 | @tup l a vs ht hs =>
  induction e:truthL l using Option.casesOn with
  | none=>exact (testV_none h e rfl).elim
  | some b =>
   refine x0a2 (fits hs e :) fun h1 h2=>?_
   exact truthy_tuple ht h1 (toks _ _ (h2▸testV_some h e))
 | @loc n a hn =>
  induction eo:σ.at n using Option.casesOn with
  | none=>exact (testV_none h (truthV_at0 eo) rfl).elim
  | some o =>
   refine x1a2 (R.led n o eo :) fun a' ha io=>?_
   rw [hn] at ha;(refine jS ha fun j=>?_;clear ha;subst j)
   induction o using O.casesOn with
   | list l =>
    refine x1a2 io fun vs hl0 hs=>?_;clear io
    have hl:=hl0.isList
    induction e:truthL l using Option.casesOn with
    | none=>exact (testV_none h ((truthV_at eo).trans e) rfl).elim
    | some b =>
     refine x0a2 (fits hs e :) fun h1 h2=>?_
     exact wpAny_truthy_list hl h1 (toks _ _ (h2▸testV_some h ((truthV_at eo).trans e)))
   | _=>exact (testV_none h (truthV_at eo) rfl).elim
 | @bv l m t hb =>
  have h':(match truthB l with | some b=>κ b σ | none=>forkV (.bv l) σ κ) = true:=h
  induction e:truthB l using Option.casesOn with
  | none=>rw [e] at h';exact ft' h'
  | some b=>rw [e] at h';exact P.truthy_int (bools _ (truthB_ok e hb▸h'))
 | @sb i b hb =>
  have h:andB (κ true σ) (κ false σ) = true:=h
  have h1:κ true σ = true:=by induction q:κ true σ using Bool.casesOn with | true=>rfl | false=>rw [q] at h;exact ft' h
  have h2:κ false σ = true:=by rw [h1] at h;exact h
  induction b using Bool.casesOn
  ·exact wpAny_truthy_bool (bools _ h2)
  ·exact wpAny_truthy_bool (bools _ h1)
 | _=>exact ft' h
theorem mkC_ok {C:SC} {ks:Kd} {r:Rc} {e:PySem.Expr} {f:Rc→Ve→St→KX→KX→Bool} (hT:∀ env x,isTrue e env x = (do let v ← x;standAt e.pos;holding [v] (truthy v)))
  (h:WX C ks e (f r)):WC C ks r e (mkC f) where
 x:=h
 t:=fun v σ κ ε e' A F env ρ s Q E H R G GE=>by
  rw [hT]
  refine wpAny_bind (h v σ _ ε e' A F env ρ s _ E H R ?_ GE)
  intro ρ' σ' s' u vv hu N hv
  refine wpAny_bind (wpAny_standAt (wpAny_holding ?_))
  exact truthV_ok hu N.rel hv (G.next N)
theorem noC_ok {C:SC} {ks:Kd} {r:Rc} {e:PySem.Expr}:WC C ks r e noC:=⟨fun _ _ _ _ h=>(Bool.false_ne_true h).elim,fun _ _ _ _ h=>(Bool.false_ne_true h).elim⟩
theorem cVal_ok {C:SC} {ks:Kd} {r:Rc} {e:PySem.Expr} {u:Option V} (hT:∀ env x,isTrue e env x = (do let v ← x;standAt e.pos;holding [v] (truthy v)))
  (h:∀ x,u = some x→WX C ks e (fun _ σ κ _=>κ x σ)):WC C ks r e (cVal u):=by
 induction u using Option.casesOn with
 | none=>exact noC_ok
 | some x=>exact mkC_ok hT (h x rfl)
theorem const_ok {C:SC} {ks:Kd} {r:Rc} {c:Const} {k:Nat} {p:Pos}:WC C ks r (.Constant c k p) (cVal (constV c)):=by
 refine cVal_ok (fun _ _=>rfl) fun x hx v σ κ ε h A F env ρ s Q E H R G GE=>?_
 cases c <;> cases hx
 ·exact wpAny_Constant_none (G _ _ _ _ _ h (.here R) .none)
 ·exact wpAny_Constant_bool (G _ _ _ _ _ h (.here R) .bool)
 ·exact wpAny_Constant_int (G _ _ _ _ _ h (.tok R _) .int)
 ·exact wpAny_Constant_str (G _ _ _ _ _ h (.tok R _) .str)
end Mine
end
section
namespace Mine
theorem retO_ok {κ:KX} {σ:St} {x:Option V} (h:retO κ σ x = true):∃ u,x = some u∧κ u σ = true:=by
 induction x using Option.casesOn with
 | none=>exact ft' h
 | some u=>exact ⟨u,rfl,h⟩
theorem isGlob_ok {k:Option NameKind} (h:isGlob k = true):k = some .globalImplicit:=by
 induction k using Option.casesOn with
 | none=>exact ft' h
 | some k=>induction k using NameKind.casesOn <;> first | rfl | exact ft' h
set_option tactic.hygienic true in
theorem oddName_ok {x:Str} (h:oddName (key x) = false):(x == ("__debug__":Str)) = false∧(x == ("__classdict__":Str)) = false:=by
 unfold oddName at h
 rw [beqN] at h
 (revert h;refine mB (fun _ h=>?_) fun _ h=>?_)
 ·exact tf' h
 ·rename_i q
  rw [beqN] at h
  have q1:=of_decide_eq_false q
  have q2:=of_decide_eq_false h
  exact ⟨beq_eq_false_iff_ne.mpr fun e=>q1 (congrArg key e),beq_eq_false_iff_ne.mpr fun e=>q2 (congrArg key e)⟩
section
variable {C:SC} {T:Tk} {F:Fm} {ρ:Va} {σ:St} {s:Shared} {A:Around} {env:Env} {ks:Kd} {v:Ve} {Q E:Value→Shared→Prop}
theorem cellV_ok {x:Str} {u:V} (h:cellV v (key x) σ = some u) (H:EnvOK C A F env ks v ρ) (R:Rel C F ρ σ s):∃ c vv,env.cells.lookup x = some c∧s.heap.IsCell c (some vv)∧IsV ρ s.heap u vv:=by
 unfold cellV at h
 induction e:lk v.cells (key x) using Option.casesOn with
 | none=>rw [e] at h;exact nS' h
 | some n =>
  rw [e] at h
  dsimp only at h
  induction eo:σ.at n using Option.casesOn with
  | none=>rw [eo] at h;exact nS' h
  | some o =>
   rw [eo] at h
   refine x1a2 (R.led n o eo :) fun a ha io=>?_
   refine x1a2 (H.cells x n e :) fun c hc hn=>?_
   rw [hn] at ha;(refine jS ha fun j=>?_;clear ha;subst j)
   induction o using O.casesOn with
   | cell w =>
    dsimp only at h
    subst h
    refine x1a2 io fun vo hI hH=>?_;clear io
    refine x1a2 (hH u rfl :) fun vv q1q hv=>?_;subst q1q
    exact ⟨_,vv,hc,hI,hv⟩
   | _=>exact nS' h
theorem loadK_ok {x:Str} {p:Pos} {u:V} (h:loadK (lk ks (key x)) (key x) v σ = some u) (hd:oddName (key x) = false) (H:EnvOK C A F env ks v ρ) (R:Rel C F ρ σ s)
  (hQ:∀ vv,IsV ρ s.heap u vv→Q vv s):wpAny (model PW C.w) A (loadName env x) Q E s:=by
 refine x0a2 (oddName_ok hd :) fun h1 h2=>?_
 unfold loadK at h
 induction ek:lk ks (key x) using Option.casesOn with
 | none=>rw [ek] at h;exact nS' h
 | some k =>
  rw [ek] at h
  have hk:=H.kindOf ek
  induction k using NameKind.casesOn with
  | «local» =>
   refine y12 R.cur fun _ mm hn hm=>?_
   refine x1a2 (hm.some h :) fun vv hv hi=>?_
   exact wpAny_loadName_local H.kind hk (H.loc▸hn) hv (hQ vv hi)
  | cell =>
   refine x2a3 (cellV_ok h H R :) fun c vv hc hI hv=>?_
   exact wpAny_loadName_cell H.kind hk hc hI (hQ vv hv)
  | free =>
   refine x2a3 (cellV_ok h H R :) fun c vv hc hI hv=>?_
   exact wpAny_loadName_free H.kind hk hc hI (hQ vv hv) h2
  | _=>exact nS' h
theorem globals_main (H:EnvOK C A F env ks v ρ):env.globals = mainGlobals∧env.builtins = builtinsNs:=by
 exact H.glob
theorem name_ok (G:Gr C T) {r:Rc} {x:Str} {p:Pos}:WC C ks r (.Name x p) (cNm T ks (key x)):=by
 unfold cNm
 induction eg:isGlob (lk ks (key x)) using Bool.casesOn with
 | true =>
  dsimp only
  refine cVal_ok (fun _ _=>rfl) fun u hu v σ κ ε h A F env ρ s Q E H R GQ GE=>?_
  obtain ⟨hd,vv,hv,hm⟩:=G.glob x u hu
  have hk:=H.kindOf (isGlob_ok eg)
  refine x0a2 (globals_main H :) fun eg' eb'=>?_
  have hQ:Q vv s:=GQ _ _ _ _ _ h (.here R) (hv _ _)
  rcases hm with hm | ⟨hm,hb⟩
  ·exact Name_function_global H.kind hk (loadGlobal_global (eg'▸G.gs R) hm hQ) hd
  ·exact Name_function_global H.kind hk (loadGlobal_builtin (eg'▸G.gs R) hm (eb'▸G.bs R) hb hQ) hd
 | false =>
  dsimp only
  induction eo:oddName (key x) using Bool.casesOn with
  | true=>exact noC_ok
  | false =>
   refine mkC_ok (fun _ _=>rfl) fun v σ κ ε h A F env ρ s Q E H R GQ GE=>?_
   refine x1a2 (retO_ok h :) fun u hu hκ=>?_
   exact wpAny_Name (loadK_ok (p:=p) hu eo H R fun vv hv=>GQ _ _ _ _ _ hκ (.here R) hv) (oddName_ok eo).1
theorem starEach_plain {e:PySem.Expr} {es:List PySem.Expr} {env:Env} (h:∀ a b,e≠.Starred a b):starEach (e :: es) env = (false,eval e env) :: starEach es env:=by
 induction e using Expr.casesOn <;> first | rfl | exact absurd rfl (h _ _)
structure WCx (C:SC) (ks:Kd) (r:Rc) (cx:PySem.Expr→Mine.C):Prop where
 ok:∀ e,WC C ks r e (cx e)
 star:∀ a b,cx (.Starred a b) = noC
 set:∀ a b c,cx (.Set a b c) = noC
theorem evs_ok {cx:PySem.Expr→Mine.C} {r:Rc} (hc:WCx C ks r cx):∀ (l:List PySem.Expr) (pos:Pos) (v:Ve) (σ:St) (κ:KL) (ε:KX),evs cx l r v σ κ ε = true→∀ (A:Around) (F:Fm) (env:Env) (ρ:Va) (s:Shared)
  (Q:List Value→Shared→Prop) (E:Value→Shared→Prop),EnvOK C A F env ks v ρ→Rel C F ρ σ s→GoL C F ρ s.heap κ Q→GoE C F ρ s.heap ε E→wpAny (model PW C.w) A (spliced (backTo pos (starEach l env))) Q E s:=by
 intro lq
 induction lq with
 | nil =>
  intro pos v σ κ ε h A F env ρ s Q E H R G GE
  exact spliced_nil (G _ _ _ _ _ h (.here R) .nil)
 | cons e es ih =>
  intro pos v σ κ ε h A F env ρ s Q E H R G GE
  have h':(cx e).x r v σ (fun u σ'=>evs cx es r v σ' (fun us σ''=>κ (u :: us) σ'') ε) ε = true:=h
  by_cases hs:∃ a b,e = .Starred a b
  ·refine x2a1 hs fun a b q2q=>?_;clear hs;subst q2q
   rw [hc.star] at h'
   exact ft' h'
  ·rw [starEach_plain fun a b q=>hs ⟨a,b,q⟩]
   refine spliced_cons ((hc.ok e).x v σ _ ε h' A F env ρ s _ E H R ?_ GE)
   intro ρ' σ' s' u vv hu N hv
   refine ih pos v σ' _ ε hu A F env ρ' s' _ E (H.mono N.pre) N.rel ?_ (GE.next N)
   intro ρ'' σ'' s'' us vs hus N' hvs
   exact G _ _ _ _ _ hus (N.trans N') (.cons (hv.mono N'.pre N'.tk) hvs)
theorem ifB_ok {b x:Bool} (h:ifB b x false = true):b = true∧x = true:=by induction b using Bool.casesOn <;> first | exact ⟨rfl,h⟩ | exact ft' h
theorem fitsN_ok {n:Nat} (h:fitsN n = true):n≤1000000:=Nat.le_of_ble_eq_true h
theorem fits_line {n:Nat} (h:n≤1000000):n≤sizeLine:=Nat.le_trans h (by decide)
theorem Heap.get?_size_none (h:Heap):h.get? h.objs.size = none:=by
 induction e:h.get? h.objs.size using Option.casesOn with
 | none=>rfl
 | some o=>exact absurd (Heap.lt_size e) (Nat.lt_irrefl _)
theorem Rel.new_off (R:Rel C F ρ σ s) {a:Addr} (e:s.heap.get? a = none):C.h0.get? a = none:=by
 induction q:C.h0.get? a using Option.casesOn with
 | none=>rfl
 | some o =>
  by_cases hP:a = C.P
  ·refine x1a2 (R.tab.tab :) fun ps hp _=>?_
   rw [hP,hp] at e;exact sN' e
  ·rw [R.keep _ _ q hP] at e;exact sN' e
theorem keep_push (h:Heap) (o:Obj):∀ b ob,h.get? b = some ob→(h.push o).get? b = some ob:=fun _ _ e=>Heap.get?_push_of_some _ e
theorem Rel.push {o:O} {ob:Obj} (R:Rel C F ρ σ s) (hf:ob.isFreed = false) (t:Nat) (H:IsO C ⟨ρ.adr++[s.heap.objs.size],ρ.sym⟩ (s.heap.push ob) s.heap.objs.size o) :
  Next C F ρ s.heap ⟨ρ.adr++[s.heap.objs.size],ρ.sym⟩ (σ.new o) { s with heap:=s.heap.push ob,toks:=t } :=
 ⟨le_more _ _,TK.keeps (keep_push _ _),R.add (s':={ s with heap:=s.heap.push ob,toks:=t }) (keep_push _ _) (Heap.get?_size_none _) (R.new_off (Heap.get?_size_none _)) ⟨ob,Heap.get?_push_size _ hf⟩ H rfl rfl⟩
theorem Rel.nxt_loc (R:Rel C F ρ σ s) {a:Addr} {h:Heap}:IsV ⟨ρ.adr++[a],ρ.sym⟩ h (.loc σ.nxt) (.ref a):=.loc (by rw [R.nxt];simp)
theorem newL_ok {κ:KX} {l:List V} {vs:List Value} (h:newL κ σ l = true) (R:Rel C F ρ σ s) (hl:IsVs ρ s.heap l vs) (G:GoQ C F ρ s.heap κ Q):wpAny (model PW C.w) A (newList vs) Q E s:=by
 refine x0a2 (ifB_ok h :) fun h1 h2=>?_
 have hf:=fitsN_ok h1
 rw [len_eq,hl.length] at hf
 refine wpAny_newList ?_ (fits_line hf)
 have N:=R.push (o:=.list l) (ob:={ cls:=.type "list",data:=.seq vs.toArray }) rfl s.toks ⟨vs,⟨_,Heap.get?_push_size _ rfl⟩,hl.mono (le_more _ _) (TK.keeps (keep_push _ _))⟩
 exact G _ _ _ _ _ h2 N R.nxt_loc
theorem newT_ok {κ:KX} {l:List V} {vs:List Value} (h:newT κ σ l = true) (R:Rel C F ρ σ s) (hl:IsVs ρ s.heap l vs) (G:GoQ C F ρ s.heap κ Q):wpAny (model PW C.w) A (newTuple vs) Q E s:=by
 refine x0a2 (ifB_ok h :) fun h1 h2=>?_
 have hf:=fitsN_ok h1
 rw [len_eq,hl.length] at hf
 refine wpAny_newTuple ?_ (fits_line hf)
 have R':=R.grow (s':={ s with heap:=s.heap.push { cls:=.type "tuple",data:=.seq vs.toArray } }) (keep_push _ _) rfl rfl
 exact G _ _ _ _ _ h2 ⟨Va.le.refl _,TK.keeps (keep_push _ _),R'⟩ (.tup (IsTup.new _ _) (hl.mono (Va.le.refl _) (TK.keeps (keep_push _ _))))
theorem tuple_ok {cx:PySem.Expr→Mine.C} {r:Rc} (hc:WCx C ks r cx) {l:List PySem.Expr} {k:Nat} {p:Pos}:WC C ks r (.Tuple l k p) (cTup cx l):=by
 refine mkC_ok (fun _ _=>rfl) fun v σ κ ε h A F env ρ s Q E H R GQ GE=>?_
 rw [arm_eval_Tuple]
 refine wpAny_bind (wpAny_standAt (wpAny_bind (evs_ok hc l p v σ _ ε h A F env ρ s _ E H R ?_ GE)))
 intro ρ' σ' s' us vs hu N hv
 exact newT_ok hu N.rel hv (GQ.next N)
theorem list_ok {cx:PySem.Expr→Mine.C} {r:Rc} (hc:WCx C ks r cx) {l:List PySem.Expr} {p:Pos}:WC C ks r (.List l p) (cList cx l):=by
 refine mkC_ok (fun _ _=>rfl) fun v σ κ ε h A F env ρ s Q E H R GQ GE=>?_
 rw [arm_eval_List]
 refine wpAny_bind (wpAny_standAt (wpAny_bind (evs_ok hc l p v σ _ ε h A F env ρ s _ E H R ?_ GE)))
 intro ρ' σ' s' us vs hu N hv
 exact newL_ok hu N.rel hv (GQ.next N)
theorem Rel.no_mods (R:Rel C F ρ σ s) {a:Addr} (e:C.h0.get? a = none):(a == sysModules) = false:=beq_eq_false_iff_ne.mpr fun q=>by
 refine x1a1 (C.hM :) fun o h=>?_
 rw [← q,e] at h;exact nS' h
theorem edict_ok {r:Rc} {kys:List (Option PySem.Expr)} {vals:List PySem.Expr} {p:Pos} (hv:vals = []):WC C ks r (.Dict kys vals p) (cEdict kys):=by
 induction kys using List.casesOn with
 | cons a t=>exact noC_ok
 | nil =>
  subst hv
  refine mkC_ok (fun _ _=>rfl) fun v σ κ ε h A F env ρ s Q E H R GQ GE=>?_
  refine wpAny_Dict_empty ?_
  exact GQ _ _ _ _ _ h (R.push (o:=.edict) rfl s.toks ⟨R.no_mods (R.new_off (Heap.get?_size_none _)),Heap.DictOf.new _,Heap.DictOf.new _⟩) R.nxt_loc
theorem if_ok {cx:PySem.Expr→Mine.C} {r:Rc} (hc:WCx C ks r cx) {t a b:PySem.Expr} {p:Pos}:WC C ks r (.IfExp t a b p) (cIf cx t a b) where
 x:=fun v σ κ ε h A F env ρ s Q E H R G GE=>by
  rw [arm_eval_IfExp]
  refine wpAny_bind ((hc.ok t).t v σ _ ε h A F env ρ s _ E H R ?_ GE)
  intro ρ' σ' s' c hκ N
  induction c using Bool.casesOn with
  | true=>exact (hc.ok a).x v σ' κ ε hκ A F env ρ' s' Q E (H.mono N.pre) N.rel (G.next N) (GE.next N)
  | false=>exact (hc.ok b).x v σ' κ ε hκ A F env ρ' s' Q E (H.mono N.pre) N.rel (G.next N) (GE.next N)
 t:=fun v σ κ ε h A F env ρ s Q E H R G GE=>by
  rw [arm_isTrue_IfExp]
  refine wpAny_bind ((hc.ok t).t v σ _ ε h A F env ρ s _ E H R ?_ GE)
  intro ρ' σ' s' c hκ N
  induction c using Bool.casesOn with
  | true=>exact (hc.ok a).t v σ' κ ε hκ A F env ρ' s' Q E (H.mono N.pre) N.rel (G.next N) (GE.next N)
  | false=>exact (hc.ok b).t v σ' κ ε hκ A F env ρ' s' Q E (H.mono N.pre) N.rel (G.next N) (GE.next N)
theorem allT_ok {cx:PySem.Expr→Mine.C} {r:Rc} (hc:WCx C ks r cx) {op:PySem.BoolOp}:∀ (l:List PySem.Expr) (v:Ve) (σ:St) (κ:KB) (ε:KX),allT cx op l r v σ κ ε = true→∀ (A:Around) (F:Fm) (env:Env) (ρ:Va) (s:Shared)
  (Q:Bool→Shared→Prop) (E:Value→Shared→Prop),EnvOK C A F env ks v ρ→Rel C F ρ σ s→GoB C F ρ s.heap κ Q→GoE C F ρ s.heap ε E→wpAny (model PW C.w) A (allTrue op l env) Q E s:=by
 intro lq
 induction lq with
 | nil =>
  intro v σ κ ε h A F env ρ s Q E H R G GE
  rw [arm_allTrue_nil]
  have:isAnd op = (op == .And):=by cases op <;> rfl
  exact wpAny_pure (this▸G _ _ _ _ h (.here R))
 | cons e es ih =>
  intro v σ κ ε h A F env ρ s Q E H R G GE
  rw [arm_allTrue_cons]
  have h':(cx e).t r v σ (allK op κ fun σ'=>allT cx op es r v σ' κ ε) ε = true:=h
  refine wpAny_bind ((hc.ok e).t v σ _ ε h' A F env ρ s _ E H R ?_ GE)
  intro ρ' σ' s' c hκ N
  cases op <;> induction c using Bool.casesOn
  ·exact wpAny_pure (G _ _ _ _ hκ N)
  ·exact ih v σ' κ ε hκ A F env ρ' s' Q E (H.mono N.pre) N.rel (G.next N) (GE.next N)
  ·exact ih v σ' κ ε hκ A F env ρ' s' Q E (H.mono N.pre) N.rel (G.next N) (GE.next N)
  ·exact wpAny_pure (G _ _ _ _ hκ N)
theorem boolV_ok {cx:PySem.Expr→Mine.C} {r:Rc} (hc:WCx C ks r cx) {op:PySem.BoolOp} {p:Pos}:∀ (l:List PySem.Expr) (v:Ve) (σ:St) (κ:KX) (ε:KX),boolV cx op l r v σ κ ε = true→∀ (A:Around) (F:Fm) (env:Env) (ρ:Va) (s:Shared)
  (Q:Value→Shared→Prop) (E:Value→Shared→Prop),EnvOK C A F env ks v ρ→Rel C F ρ σ s→GoQ C F ρ s.heap κ Q→GoE C F ρ s.heap ε E→wpAny (model PW C.w) A (boolOp p op (evalEach l env)) Q E s:=by
 intro l
 induction l with
 | nil=>intro v σ κ ε h;exact ft' h
 | cons e es ih =>
  intro v σ κ ε h A F env ρ s Q E H R G GE
  induction es using List.casesOn with
  | nil =>
   have h':(cx e).x r v σ κ ε = true:=h
   show wpAny _ _ (boolOp p op [eval e env]) _ _ _
   unfold boolOp
   exact (hc.ok e).x v σ κ ε h' A F env ρ s Q E H R G GE
  | cons e2 es =>
   have h':(cx e).x r v σ (fun u σ'=>testV u σ' (boolK op κ (fun σ''=>boolV cx op (e2 :: es) r v σ'' κ ε) u)) ε = true:=h
   show wpAny _ _ (boolOp p op (eval e env :: eval e2 env :: evalEach es env)) _ _ _
   unfold boolOp
   refine wpAny_bind ((hc.ok e).x v σ _ ε h' A F env ρ s _ E H R ?_ GE)
   intro ρ' σ' s' u vv hu N hv
   refine wpAny_bind (wpAny_standAt (wpAny_bind (wpAny_holding (truthV_ok hu N.rel hv ?_))))
   intro ρ'' σ'' s'' b hb N'
   have N2:=N.trans N'
   cases op <;> induction b using Bool.casesOn
   ·exact wpAny_pure (G _ _ _ _ _ hb N2 (hv.mono N'.pre N'.tk))
   ·exact ih v σ'' κ ε hb A F env ρ'' s'' Q E (H.mono N2.pre) N2.rel (G.next N2) (GE.next N2)
   ·exact ih v σ'' κ ε hb A F env ρ'' s'' Q E (H.mono N2.pre) N2.rel (G.next N2) (GE.next N2)
   ·exact wpAny_pure (G _ _ _ _ _ hb N2 (hv.mono N'.pre N'.tk))
theorem bool_ok {cx:PySem.Expr→Mine.C} {r:Rc} (hc:WCx C ks r cx) {op:PySem.BoolOp} {l:List PySem.Expr} {p:Pos}:WC C ks r (.BoolOp op l p) (cBool cx op l) where
 x:=fun v σ κ ε h A F env ρ s Q E H R G GE=>by
  rw [arm_eval_BoolOp]
  exact boolV_ok hc l v σ κ ε h A F env ρ s Q E H R G GE
 t:=fun v σ κ ε h A F env ρ s Q E H R G GE=>by
  rw [arm_isTrue_BoolOp]
  exact allT_ok hc l v σ κ ε h A F env ρ s Q E H R G GE
theorem not_ok {cx:PySem.Expr→Mine.C} {r:Rc} (hc:WCx C ks r cx) {a:PySem.Expr} {p:Pos}:WC C ks r (.UnaryOp .Not a p) (cNot cx a) where
 x:=fun v σ κ ε h A F env ρ s Q E H R G GE=>by
  rw [arm_eval_UnaryOp]
  refine wpAny_bind ((hc.ok a).x v σ _ ε h A F env ρ s _ E H R ?_ GE)
  intro ρ' σ' s' u vv hu N hv
  refine wpAny_bind (wpAny_standAt (wpAny_holding ?_))
  show wpAny _ _ (holding [vv] (truthy vv >>= fun t=>(pure (Value.bool (!t)):Sem Value))) _ _ _
  refine wpAny_holding (wpAny_bind (truthV_ok hu N.rel hv ?_))
  intro ρ'' σ'' s'' b hb N'
  have:notB b = !b:=by induction b using Bool.casesOn <;> rfl
  exact wpAny_pure (G _ _ _ _ _ hb (N.trans N') (this▸.bool))
 t:=fun v σ κ ε h A F env ρ s Q E H R G GE=>by
  refine wpAny_isTrue_Not ((hc.ok a).t v σ _ ε h A F env ρ s _ E H R ?_ GE)
  intro ρ' σ' s' b hb N
  have:notB b = !b:=by induction b using Bool.casesOn <;> rfl
  exact this▸G _ _ _ _ hb N
theorem neg_ok {cx:PySem.Expr→Mine.C} {r:Rc} (hc:WCx C ks r cx) {a:PySem.Expr} {p:Pos}:WC C ks r (.UnaryOp .USub a p) (cUn cx .USub a):=by
 refine mkC_ok (fun _ _=>rfl) fun v σ κ ε h A F env ρ s Q E H R G GE=>?_
 rw [arm_eval_UnaryOp]
 refine wpAny_bind ((hc.ok a).x v σ _ ε h A F env ρ s _ E H R ?_ GE)
 intro ρ' σ' s' u vv hu N hv
 refine wpAny_bind (wpAny_standAt (wpAny_holding ?_))
 induction hv using IsV.casesOn with
 | int=>exact P.neg_int (G _ _ _ _ _ hu (N.trans (.tok N.rel _)) .int)
 | _=>exact ft' hu
theorem un_ok {cx:PySem.Expr→Mine.C} {r:Rc} (hc:WCx C ks r cx) {o:UnaryOp} {a:PySem.Expr} {p:Pos}:WC C ks r (.UnaryOp o a p) (cUn cx o a):=by
 cases o with
 | USub=>exact neg_ok hc
 | Not=>exact not_ok hc
 | _=>exact noC_ok
end
end Mine
end
section
namespace Mine
open PySem.SeqAt
theorem IsBts.zero {S:List Value}:∀ {l:List Bt} {m:Nat},allZ l = true→IsBts S l m→m = 0:=allZ_ok
theorem beqBt_ok {a b:Bt} (h:beqBt a b = true):a = b:=by
 induction a using Bt.casesOn with
 | s i j =>
  induction b using Bt.casesOn with
  | s k l =>
   have h:(match Nat.beq i k with | true=>Nat.beq j l | false=>false) = true:=h
   induction q:Nat.beq i k using Bool.casesOn with
   | true=>rw [q] at h;rw [Nat.eq_of_beq_eq_true q,Nat.eq_of_beq_eq_true h]
   | false=>rw [q] at h;exact ft' h
  | _=>exact ft' h
 | _=>induction b using Bt.casesOn <;> first | rfl | exact ft' h
theorem beqBts_ok {S:List Value}:∀ {l k:List Bt} {m n:Nat},beqBts l k = true→IsBts S l m→IsBts S k n→m = n:=by
 intro l
 induction l with
 | nil =>
  intro k m n h hl hk
  have h':allZ k = true:=h
  cases hl
  exact (hk.zero h').symm
 | cons x xs ih =>
  intro k m n h hl hk
  induction k using List.casesOn with
  | nil =>
   have h':allZ (x :: xs) = true:=h
   cases hk
   exact hl.zero h'
  | cons y ys =>
   have h':(Bool.rec false (beqBts xs ys) (beqBt x y):Bool) = true:=h
   induction e:beqBt x y using Bool.casesOn with
   | false=>rw [e] at h';exact ft' h'
   | true =>
    rw [e] at h'
    obtain rfl:=beqBt_ok e
    cases hl with
    | cons a r =>
     cases hk with
     | cons b t=>rw [a.det b,ih h' r t]
theorem toBits_ok {S:List Value}:∀ (f n:Nat),n < 2 ^ f→IsBts S (toBits f n) n:=by
 intro nq
 induction nq with
 | zero =>
  intro n h
  have:n = 0:=by simpa using h
  subst this;exact .nil
 | succ f ih =>
  intro n h
  show IsBts S (Bool.rec ((Bool.rec .o .z (Nat.beq (n % 2) 0):Bt) :: toBits f (n / 2)) [] (Nat.beq n 0):List Bt) n
  rw [beqN n 0]
  by_cases h0:n = 0
  ·subst h0;exact .nil
  ·rw [decide_eq_false h0]
   have e:n = n % 2 + 2 * (n / 2):=by lia
   have hr:IsBts S (toBits f (n / 2)) (n / 2):=ih (n / 2) (by rw [Nat.pow_succ] at h;lia)
   have hb:IsBt S (Bool.rec .o .z (Nat.beq (n % 2) 0)) (n % 2):=by
    rw [beqN (n % 2) 0]
    by_cases h1:n % 2 = 0
    ·rw [h1];exact .z
    ·have:n % 2 = 1:=by lia
     rw [this];exact .o
   have:=IsBts.cons hb hr
   rwa [← e] at this
set_option tactic.hygienic true in
theorem bitsN_ok {S:List Value} {n:Nat} {l:List Bt} (h:bitsN n = some l):IsBts S l n:=by
 unfold bitsN at h
 (revert h;refine mB (fun _ h=>?_) fun _ h=>?_)
 ·rename_i q
  (refine jS h fun j=>?_;clear h;subst j)
  exact toBits_ok _ _ (Nat.lt_of_le_of_lt (Nat.le_of_ble_eq_true q) (by decide))
 ·exact nS' h
set_option tactic.hygienic true in
theorem eqBits_ok {S:List Value} {a:List Bt} {b:Option (List Bt)} {c:Bool} {m n:Nat} (h:eqBits a b = some c) (ha:IsBts S a m) (hb:∀ l,b = some l→IsBts S l n):c = true∧m = n:=by
 unfold eqBits at h
 induction b using Option.casesOn with
 | none=>exact nS' h
 | some l =>
  dsimp only at h
  (revert h;refine mB (fun _ h=>?_) fun _ h=>?_)
  ·rename_i q;(refine jS h fun j=>?_;clear h;subst j);exact ⟨rfl,beqBts_ok q ha (hb l rfl)⟩
  ·exact nS' h
theorem andO_ok {a b:Option Bool} {c:Bool} (h:andO a b = some c):∃ x y,a = some x∧b = some y∧c = (x && y):=by
 unfold andO at h
 induction a using Option.casesOn with
 | none=>exact nS' h
 | some x =>
  induction b using Option.casesOn with
  | none=>exact nS' h
  | some y=>(refine jS h fun j=>?_;clear h;subst j);exact ⟨x,y,rfl,rfl,by induction x using Bool.casesOn <;> rfl⟩
theorem orO_ok {a b:Option Bool} {c:Bool} (h:orO a b = some c):∃ x y,a = some x∧b = some y∧c = (x || y):=by
 unfold orO at h
 induction a using Option.casesOn with
 | none=>exact nS' h
 | some x =>
  induction b using Option.casesOn with
  | none=>exact nS' h
  | some y=>(refine jS h fun j=>?_;clear h;subst j);exact ⟨x,y,rfl,rfl,by induction x using Bool.casesOn <;> rfl⟩
noncomputable def EqMean (A:Around) (s:Shared) (x:V) (v w:Value) (c:Bool):Prop :=
 EqAt A s v w c∧((∀ i,x≠.opq i)→RcAt A s v w c)∧(v = w→c = true)
theorem eqL_ok {f:V→V→Option Bool} {P:V→V→Bool→Value→Value→Prop} {ρ:Va} {h:Heap} (hf:∀ x y c v w,f x y = some c→IsV ρ h x v→IsV ρ h y w→P x y c v w) :
  ∀ {l m:List V} {vs ws:List Value} {c:Bool},eqL f l m = some c→IsVs ρ h l vs→IsVs ρ h m ws →
   ∃ e:Nat→Bool,(∀ j (h1:j < vs.length) (h2:j < ws.length),∃ x y,P x y (e j) vs[j] ws[j])∧c = ((List.range (min vs.length ws.length)).all e && vs.length == ws.length):=by
 intro l
 induction l with
 | nil =>
  intro m vs ws c h hl hm
  induction m using List.casesOn with
  | nil =>
   have e1:vs = []:=hl.inv
   have e2:ws = []:=hm.inv
   rw [e1,e2,← Option.some.inj (show some true = some c from h)];exact ⟨fun _=>true,fun j h1=>absurd h1 (Nat.not_lt_zero _),rfl⟩
  | cons _ _ =>
   have e1:vs = []:=hl.inv
   refine x2a3 (hm.inv :) fun w ws' e2 _ _=>?_
   rw [e1,e2,← Option.some.inj (show some false = some c from h)];exact ⟨fun _=>true,fun j h1=>absurd h1 (Nat.not_lt_zero _),rfl⟩
 | cons x l ih =>
  intro m vs ws c h hl hm
  induction m using List.casesOn with
  | nil =>
   have e1:ws = []:=hm.inv
   refine x2a3 (hl.inv :) fun v vs' e2 _ _=>?_
   rw [e1,e2,← Option.some.inj (show some false = some c from h)];exact ⟨fun _=>true,fun j _ h2=>absurd h2 (Nat.not_lt_zero _),rfl⟩
  | cons y m =>
   refine x2a3 (hl.inv :) fun v vs e1 hx hl=>?_
   refine x2a3 (hm.inv :) fun w ws e2 hy hm=>?_
   refine x2a3 (andO_ok (show andO (f x y) (eqL f l m) = some c from h) :) fun a b ha hb e3=>?_
   refine x1a2 (ih hb hl hm :) fun e he hc=>?_
   rw [e1,e2,e3,hc]
   refine ⟨fun j=>match j with | 0=>a | j + 1=>e j,fun j h1 h2=>?_,?_⟩
   ·cases j with
    | zero=>exact ⟨x,y,hf _ _ _ _ _ ha hx hy⟩
    | succ j=>exact he j (Nat.lt_of_succ_lt_succ h1) (Nat.lt_of_succ_lt_succ h2)
   ·rw [List.length_cons,List.length_cons,Nat.succ_min_succ,List.range_succ_eq_map,List.all_cons,List.all_map,← Bool.and_assoc,show (vs.length + 1 == ws.length + 1) = (vs.length == ws.length) by simp only [Nat.reduceBeqDiff]]
    rfl
theorem isTup_det {h:Heap} {a:Addr} {x y:Array Value} (p:IsTup h a x) (q:IsTup h a y):x = y:=by
 obtain ⟨o,e,_,n,d⟩:=p
 obtain ⟨o',e',_,n',d'⟩:=q
 rw [e] at e';(refine jS e' fun j=>?_;clear e';subst j)
 rw [d] at d';cases d';rfl
theorem beqStr_eq (a b:Str):beqStr a b = (a == b):=by
 unfold beqStr
 rw [beqN]
 by_cases q:a = b
 ·subst q;simp
 ·rw [decide_eq_false fun z=>q (key_inj z)]
  exact (beq_eq_false_iff_ne.mpr q).symm
theorem beqI_eq' (a b:Int):beqI a b = (a == b):=by rw [beqI_eq];by_cases q:a = b <;> simp [q]
inductive EqSh (ρ:Va) (h:Heap) (n:Nat) (x:V):Value→Value→Bool→Prop
 | nn:EqSh ρ h n x .none .none true
 | ni {i t}:EqSh ρ h n x .none (.int i t) false
 | ns {y t}:EqSh ρ h n x .none (.str y t) false
 | nt {a vs}:IsTup h a vs→EqSh ρ h n x .none (.ref a) false
 | bb {a b}:EqSh ρ h n x (.bool a) (.bool b) (a == b)
 | ii {a t b u}:EqSh ρ h n x (.int a t) (.int b u) (a == b)
 | io {a t}:EqSh ρ h n x (.int a t) .none false
 | is {a t y u}:EqSh ρ h n x (.int a t) (.str y u) false
 | it {a t b vs}:IsTup h b vs→EqSh ρ h n x (.int a t) (.ref b) false
 | ss {a t b u}:EqSh ρ h n x (.str a t) (.str b u) (a == b)
 | so {a t}:EqSh ρ h n x (.str a t) .none false
 | si {a t y u}:EqSh ρ h n x (.str a t) (.int y u) false
 | st {a t b vs}:IsTup h b vs→EqSh ρ h n x (.str a t) (.ref b) false
 | tt {l m a b vs ws c}:IsTup h a vs.toArray→IsTup h b ws.toArray→IsVs ρ h l vs→IsVs ρ h m ws→eqL (eqF n) l m = some c→EqSh ρ h n x (.ref a) (.ref b) c
 | to {a vs}:IsTup h a vs→EqSh ρ h n x (.ref a) .none false
 | ti {a vs y u}:IsTup h a vs→EqSh ρ h n x (.ref a) (.int y u) false
 | ts {a vs y u}:IsTup h a vs→EqSh ρ h n x (.ref a) (.str y u) false
 | op {v}:(∃ i,x = .opq i)→EqSh ρ h n x v v true
section
variable {ρ:Va} {h:Heap} {n:Nat} {x y:V} {c:Bool} {w:Value}
theorem EqSh.bits {m k:Nat} {t u:Tok} (e:m = k):EqSh ρ h n x (.int (m:Int) t) (.int (k:Int) u) true:=by
 have z:EqSh ρ h n x (.int (m:Int) t) (.int (m:Int) u) ((m:Int) == (m:Int)):=.ii
 rw [beq_self_eq_true] at z
 rw [← e];exact z
theorem eqNone_sh (e:eqNone y = some c) (hy:IsV ρ h y w):EqSh ρ h n x .none w c:=by
 induction hy using IsV.casesOn with
 | none=>(refine jS e fun j=>?_;clear e;subst j);exact .nn
 | int=>(refine jS e fun j=>?_;clear e;subst j);exact .ni
 | str=>(refine jS e fun j=>?_;clear e;subst j);exact .ns
 | tup ht _=>(refine jS e fun j=>?_;clear e;subst j);exact .nt ht
 | _=>exact nS' e
theorem eqInt_sh {a:Int} {t:Tok} (e:eqInt a y = some c) (hy:IsV ρ h y w):EqSh ρ h n x (.int a t) w c:=by
 induction hy using IsV.casesOn with
 | @int b u =>
  have e:some (beqI a b) = some c:=e
  rw [← Option.some.inj e,beqI_eq'];exact .ii
 | none=>(refine jS e fun j=>?_;clear e;subst j);exact .io
 | str=>(refine jS e fun j=>?_;clear e;subst j);exact .is
 | tup ht _=>(refine jS e fun j=>?_;clear e;subst j);exact .it ht
 | @bv l m u hb =>
  induction a using Int.casesOn with
  | negSucc n=>exact nS' e
  | ofNat n =>
   refine x0a2 (eqBits_ok (n:=n) (show eqBits l (bitsN n) = some c from e) hb fun l q=>bitsN_ok q :) fun e1 e2=>?_
   rw [e1];exact .bits e2.symm
 | _=>exact nS' e
theorem eqStr_sh {a:Str} {t:Tok} (e:eqStr a y = some c) (hy:IsV ρ h y w):EqSh ρ h n x (.str a t) w c:=by
 induction hy using IsV.casesOn with
 | @str b u =>
  have e:some (beqStr a b) = some c:=e
  rw [← Option.some.inj e,beqStr_eq];exact .ss
 | none=>(refine jS e fun j=>?_;clear e;subst j);exact .so
 | int=>(refine jS e fun j=>?_;clear e;subst j);exact .si
 | tup ht _=>(refine jS e fun j=>?_;clear e;subst j);exact .st ht
 | _=>exact nS' e
theorem eqTup_sh {l:List V} {a:Addr} {vs:List Value} (ht:IsTup h a vs.toArray) (hs:IsVs ρ h l vs) (e:eqTup (eqF n) l y = some c) (hy:IsV ρ h y w):EqSh ρ h n x (.ref a) w c:=by
 induction hy using IsV.casesOn with
 | tup ht' hs'=>exact .tt ht ht' hs hs' e
 | none=>(refine jS e fun j=>?_;clear e;subst j);exact .to ht
 | int=>(refine jS e fun j=>?_;clear e;subst j);exact .ti ht
 | str=>(refine jS e fun j=>?_;clear e;subst j);exact .ts ht
 | _=>exact nS' e
theorem eqBv_sh {l:List Bt} {m:Nat} {t:Tok} (hb:IsBts ρ.sym l m) (e:eqBv l y = some c) (hy:IsV ρ h y w):EqSh ρ h n x (.int (m:Int) t) w c:=by
 induction hy using IsV.casesOn with
 | @bv k _ u hk =>
  refine x0a2 (eqBits_ok (show eqBits l (some k) = some c from e) hb fun l q=>Option.some.inj q▸hk :) fun e1 e2=>?_
  rw [e1];exact .bits e2
 | @int b u =>
  induction b using Int.casesOn with
  | negSucc n=>exact nS' e
  | ofNat n =>
   refine x0a2 (eqBits_ok (n:=n) (show eqBits l (bitsN n) = some c from e) hb fun l q=>bitsN_ok q :) fun e1 e2=>?_
   rw [e1];exact .bits e2
 | _=>exact nS' e
theorem eqOpq_sh {i:Nat} {v:Value} (hb:ρ.sym[i]? = some v) (e:eqOpq i y = some c) (hy:IsV ρ h y w):EqSh ρ h n (.opq i) v w c:=by
 induction hy using IsV.casesOn with
 | @opq j w hb' ho' =>
  have e:(match Nat.beq i j with | true=>some true | false=>none) = some c:=e
  induction q:Nat.beq i j using Bool.casesOn with
  | false=>rw [q] at e;exact nS' e
  | true =>
   rw [q] at e;(refine jS e fun j=>?_;clear e;subst j)
   rw [← Nat.eq_of_beq_eq_true q,hb] at hb'
   rw [Option.some.inj hb'];exact .op ⟨i,rfl⟩
 | _=>exact nS' e
theorem eqS_sh {v:Value} (e:eqS (eqF n) x y = some c) (hx:IsV ρ h x v) (hy:IsV ρ h y w):EqSh ρ h n x v w c:=by
 induction hx using IsV.casesOn with
 | none=>exact eqNone_sh e hy
 | @bool a =>
  induction hy using IsV.casesOn with
  | @bool b=>rw [show c = (a == b) by induction a using Bool.casesOn <;> induction b using Bool.casesOn <;> (refine jS e fun j=>?_;clear e;subst j) <;> rfl];exact .bb
  | _=>exact nS' e
 | int=>exact eqInt_sh e hy
 | str=>exact eqStr_sh e hy
 | tup ht hs=>exact eqTup_sh ht hs e hy
 | bv hb=>exact eqBv_sh hb e hy
 | opq hb _=>exact eqOpq_sh hb e hy
 | _=>exact nS' e
end
theorem beq_of {α:Type} [BEq α] [LawfulBEq α] {a b:α} {p:Prop} (h:p→a = b):p→(a == b) = true:=fun q=>beq_iff_eq.mpr (h q)
theorem eqF_ok {ρ:Va} {s:Shared}:∀ (n:Nat) (A:Around),A.units + n < cLine→∀ (x y:V) (c:Bool) (v w:Value),eqF n x y = some c→IsV ρ s.heap x v→IsV ρ s.heap y w→EqMean A s x v w c:=by
 intro nq
 induction nq with
 | zero =>
  intro _ _ _ _ _ _ _ h _ _
  exact nS' h
 | succ n ih =>
  intro A hu x y c v w h hx hy
  have hu':A.units < cLine:=Nat.lt_of_le_of_lt (Nat.le_add_right _ _) hu
  have qs:=eqS_sh (show eqS (eqF n) x y = some c from h) hx hy
  clear h hx hy
  induction qs using EqSh.casesOn with
  | nn=>exact ⟨.same _,fun _=>.none_none,fun _=>rfl⟩
  | ni=>exact ⟨.none_int _ _,fun _=>.none_int _ _,Value.noConfusion⟩
  | ns=>exact ⟨.none_str _ _,fun _=>.none_str _ _,Value.noConfusion⟩
  | nt ht=>exact ⟨.none_tuple ht hu',fun _=>.none_tuple ht hu',Value.noConfusion⟩
  | bb=>exact ⟨.bool_bool _ _,fun _=>.bool_bool _ _,beq_of Value.bool.inj⟩
  | ii=>exact ⟨.int_int _ _ _ _,fun _=>.int_int _ _ _ _,beq_of fun q=>(Value.int.inj q).1⟩
  | io=>exact ⟨.int_none _ _,fun _=>.int_none _ _,Value.noConfusion⟩
  | is=>exact ⟨.int_str _ _ _ _,fun _=>.int_str _ _ _ _,Value.noConfusion⟩
  | it ht=>exact ⟨.int_tuple _ _ ht hu',fun _=>.int_tuple _ _ ht hu',Value.noConfusion⟩
  | ss=>exact ⟨.str_str _ _ _ _,fun _=>.str_str _ _ _ _,beq_of fun q=>(Value.str.inj q).1⟩
  | so=>exact ⟨.str_none _ _,fun _=>.str_none _ _,Value.noConfusion⟩
  | si=>exact ⟨.str_int _ _ _ _,fun _=>.str_int _ _ _ _,Value.noConfusion⟩
  | st ht=>exact ⟨.str_tuple _ _ ht hu',fun _=>.str_tuple _ _ ht hu',Value.noConfusion⟩
  | to ht=>exact ⟨.tuple_none ht hu',fun _=>.tuple_none ht hu',Value.noConfusion⟩
  | ti ht=>exact ⟨.tuple_int _ _ ht hu',fun _=>.tuple_int _ _ ht hu',Value.noConfusion⟩
  | ts ht=>exact ⟨.tuple_str _ _ ht hu',fun _=>.tuple_str _ _ ht hu',Value.noConfusion⟩
  | op hi=>exact ⟨.same _,fun k=>hi.elim fun i q=>absurd q (k i),fun _=>rfl⟩
  | @tt l m a b vs ws c ht ht' hs hs' h2 =>
   refine x1a2 (eqL_ok (P:=fun x y c v w=>EqMean A.in1 s x v w c) (fun x y c v w q p p'=>ih A.in1 (Nat.lt_of_le_of_lt (Nat.le_of_eq (Nat.succ_add_eq_add_succ _ _)) hu) x y c v w q p p') h2 hs hs' :) fun e he hc=>?_
   have rc:RcAt A s (.ref a) (.ref b) c:=by
    rw [hc]
    exact RcAt.tuples (A:=A) (s:=s) (l:=a) (b:=b) (e:=e) ht ht' hu' fun j h1 h2=>(he j h1 h2).elim fun x p=>p.elim fun y p=>p.1
   have same:Value.ref a = .ref b→c = true:=fun q=>by
    rw [← Value.ref.inj q] at ht'
    have e2:vs = ws:=congrArg Array.toList (isTup_det ht ht')
    rw [hc,← e2,Nat.min_self,beq_self_eq_true,Bool.and_true,List.all_eq_true]
    intro j hj
    have hj:=List.mem_range.mp hj
    refine x2a1 (he j hj (e2▸hj) :) fun x y p=>?_
    exact p.2.2 (by simp only [e2])
   refine ⟨?_,fun _=>rc,same⟩
   by_cases q:a = b
   ·rw [same (congrArg _ q),q];exact .same _
   ·exact .of_refs q rc
theorem neF_ok {ρ:Va} {s:Shared} {n:Nat} {A:Around} (hu:A.units + (n + 1) < cLine) {x y:V} {c:Bool} {v w:Value} (h:eqF (n + 1) x y = some c) (hx:IsV ρ s.heap x v) (hy:IsV ρ s.heap y w) (ho:∀ i,x≠.opq i):RcNeAt A s v w (!c):=by
 have hu':A.units < cLine:=Nat.lt_of_le_of_lt (Nat.le_add_right _ _) hu
 have qs:=eqS_sh (show eqS (eqF n) x y = some c from h) hx hy
 clear h hx hy
 induction qs using EqSh.casesOn with
 | nn=>exact .none_none
 | ni=>exact .none_int _ _
 | ns=>exact .none_str _ _
 | nt ht=>exact .none_tuple ht hu'
 | bb=>exact .bool_bool _ _
 | ii=>exact .int_int _ _ _ _
 | io=>exact .int_none _ _
 | is=>exact .int_str _ _ _ _
 | it ht=>exact .int_tuple _ _ ht hu'
 | ss=>exact .str_str _ _ _ _
 | so=>exact .str_none _ _
 | si=>exact .str_int _ _ _ _
 | st ht=>exact .str_tuple _ _ ht hu'
 | to ht=>exact .tuple_none ht hu'
 | ti ht=>exact .tuple_int _ _ ht hu'
 | ts ht=>exact .tuple_str _ _ ht hu'
 | op hi=>exact hi.elim fun i q=>absurd q (ho i)
 | @tt l m a b vs ws c ht ht' hs hs' h2 =>
  refine x1a2 (eqL_ok (P:=fun x y c v w=>EqMean A.in1 s x v w c) (fun x y c v w q p p'=>eqF_ok n A.in1 (Nat.lt_of_le_of_lt (Nat.le_of_eq (Nat.succ_add_eq_add_succ _ _)) hu) x y c v w q p p') h2 hs hs' :) fun e he hc=>?_
  rw [hc]
  exact RcNeAt.tuples (A:=A) (s:=s) (l:=a) (b:=b) (e:=e) ht ht' hu' fun j h1 h2=>(he j h1 h2).elim fun x p=>p.elim fun y p=>p.1
theorem eqTop_ok {x y:V} {c:Bool} (h:eqTop x y = some c):eqV x y = some c∧∀ i,x≠.opq i:=by
 induction x using V.casesOn <;> first | exact ⟨h,fun i q=>by cases q⟩ | exact nS' h
theorem notO_ok {a:Option Bool} {c:Bool} (h:notO a = some c):∃ b,a = some b∧c = !b:=by
 induction a using Option.casesOn with
 | none=>exact nS' h
 | some b=>(refine jS h fun j=>?_;clear h;subst j);exact ⟨b,rfl,by induction b using Bool.casesOn <;> rfl⟩
noncomputable def isStrB (a:Str) (y:Value):Bool:=match y with | .str b _=>b == a | _=>false
noncomputable def isIntB (a:Int) (y:Value):Bool:=match y with | .int b _=>b == a | _=>false
theorem mS_at {ρ:Va} {h:Heap} {a:Str} {y:V} {p:Bool} {w:Value} (e:mS a y = some p) (hy:IsV ρ h y w):∃ x u,w = .str x u∧p = (x == a):=by
 induction hy using IsV.casesOn with
 | @str x u=>exact ⟨x,u,rfl,((beqStr_eq x a).symm.trans (Option.some.inj (show some (beqStr x a) = some p from e))).symm⟩
 | _=>exact nS' e
theorem mI_at {ρ:Va} {h:Heap} {a:Int} {y:V} {p:Bool} {w:Value} (e:mI a y = some p) (hy:IsV ρ h y w):∃ x u,w = .int x u∧p = (x == a):=by
 induction hy using IsV.casesOn with
 | @int x u=>exact ⟨x,u,rfl,((beqI_eq' x a).symm.trans (Option.some.inj (show some (beqI x a) = some p from e))).symm⟩
 | _=>exact nS' e
theorem inS_ok {ρ:Va} {s:Shared} {A:Around} {a:Str} {t:Tok}:∀ {l:List V} {vs:List Value} {c:Bool},inS a l = some c→IsVs ρ s.heap l vs→(∀ y∈vs,EqAt A s y (.str a t) (isStrB a y))∧c = vs.any (isStrB a):=by
 intro l
 induction l with
 | nil =>
  intro vs c h hl
  have e:vs = []:=hl.inv
  rw [e];exact ⟨fun _ h=>absurd h List.not_mem_nil,(Option.some.inj (show some false = some c from h)).symm⟩
 | cons y l ih =>
  intro vq c h hl
  refine x2a3 (hl.inv :) fun w vs e hy hl=>?_
  refine x2a3 (orO_ok (show orO (mS a y) (inS a l) = some c from h) :) fun p q ha hb ec=>?_
  refine x0a2 (ih hb hl :) fun h1 h2=>?_
  refine x2a2 (mS_at ha hy :) fun x u ew ep=>?_
  rw [e,ec,h2,ew,ep]
  refine ⟨fun z hz=>(List.mem_cons.mp hz).elim (fun e=>e▸.str_str x u a t) (h1 z),rfl⟩
theorem inI_ok {ρ:Va} {s:Shared} {A:Around} {a:Int} {t:Tok}:∀ {l:List V} {vs:List Value} {c:Bool},inI a l = some c→IsVs ρ s.heap l vs→(∀ y∈vs,EqAt A s y (.int a t) (isIntB a y))∧c = vs.any (isIntB a):=by
 intro l
 induction l with
 | nil =>
  intro vs c h hl
  have e:vs = []:=hl.inv
  rw [e];exact ⟨fun _ h=>absurd h List.not_mem_nil,(Option.some.inj (show some false = some c from h)).symm⟩
 | cons y l ih =>
  intro vq c h hl
  refine x2a3 (hl.inv :) fun w vs e hy hl=>?_
  refine x2a3 (orO_ok (show orO (mI a y) (inI a l) = some c from h) :) fun p q ha hb ec=>?_
  refine x0a2 (ih hb hl :) fun h1 h2=>?_
  refine x2a2 (mI_at ha hy :) fun x u ew ep=>?_
  rw [e,ec,h2,ew,ep]
  refine ⟨fun z hz=>(List.mem_cons.mp hz).elim (fun e=>e▸.int_int x u a t) (h1 z),rfl⟩
end Mine
end
section
namespace Mine
open PySem.SeqAt
theorem IsKS.at {ρ:Va} {h:Heap} {x:Str}:∀ {m:List (Nat×V)} {kvs:List (Str×Value)},IsKS ρ h m kvs→match lk m (key x) with
  | some u=>∃ v,valueAt kvs x = some v∧IsV ρ h u v
  | none=>valueAt kvs x = none:=by
 intro m kvs q
 induction q with
 | nil=>rfl
 | @cons k n u v xs vs e hv r ih =>
  subst e
  rw [lk_cons]
  unfold valueAt
  rw [List.find?_cons]
  by_cases q:k = x
  ·subst q;simp only [if_true,decide_true,Option.map_some];exact ⟨v,rfl,hv⟩
  ·rw [if_neg fun z=>q (key_inj z)]
   simp only [q,decide_false]
   exact ih
theorem IsKI.at {ρ:Va} {h:Heap} {x:Int}:∀ {m:List (Int×V)} {kvs:List (Int×Value)},IsKI ρ h m kvs→match lkI m x with
  | some u=>∃ v,valueAt kvs x = some v∧IsV ρ h u v
  | none=>valueAt kvs x = none:=by
 intro m kvs q
 induction q with
 | nil=>rfl
 | @cons k u v xs vs hv r ih =>
  rw [lkI_cons]
  unfold valueAt
  rw [List.find?_cons]
  by_cases q:k = x
  ·subst q;simp only [if_true,decide_true,Option.map_some];exact ⟨v,rfl,hv⟩
  ·rw [if_neg q]
   simp only [q,decide_false]
   exact ih
section
variable {C:SC} {F:Fm} {ρ:Va} {σ:St} {s:Shared} {A:Around} {Q:Value→Shared→Prop} {E:Value→Shared→Prop}
theorem some_of_lk {x:Option V} {c:Bool} (h:hasB x = some c):c = x.isSome:=by
 induction x using Option.casesOn <;> (refine jS h fun j=>?_;clear h;subst j) <;> rfl
theorem Rel.thing (R:Rel C F ρ σ s) {n:Nat} {a:Addr} (ha:ρ.adr[n]? = some a) {o:O} (e:σ.at n = some o):IsO C ρ s.heap a o:=by
 refine x1a2 (R.led n o e :) fun b hb io=>?_
 rw [ha] at hb;(refine jS hb fun j=>?_;clear hb;subst j)
 exact io
theorem inL_at {x:V} {l:List V} {c:Bool} (h:inL x l = some c):(∃ b,x = .str b∧inS b l = some c)∨∃ b,x = .int b∧inI b l = some c:=by
 induction x using V.casesOn with
 | str b=>exact .inl ⟨b,rfl,h⟩
 | int b=>exact .inr ⟨b,rfl,h⟩
 | _=>exact nS' h
theorem inE_at {x:V} {c:Bool} (h:(match x with | .str _=>some false | .int _=>some false | _=>none) = some c):c = false∧((∃ b,x = .str b)∨∃ b,x = .int b):=by
 induction x using V.casesOn with
 | str b=>exact ⟨(Option.some.inj h).symm,.inl ⟨b,rfl⟩⟩
 | int b=>exact ⟨(Option.some.inj h).symm,.inr ⟨b,rfl⟩⟩
 | _=>exact nS' h
theorem inC_at {x y:V} {c:Bool} (h:inC x y σ = some c):(∃ l,y = .tup l∧inL x l = some c)∨∃ n o,y = .loc n∧σ.at n = some o ∧
  ((o = .edict∧c = false∧((∃ b,x = .str b)∨∃ b,x = .int b))∨(∃ m b,o = .sdict m∧x = .str b∧hasB (lk m (key b)) = some c)∨∃ m b,o = .idict m∧x = .int b∧hasB (lkI m b) = some c):=by
 induction y using V.casesOn with
 | tup l=>exact .inl ⟨l,rfl,h⟩
 | loc n =>
  refine x1a2 (mSome h nS :) fun o eo h=>?_
  refine .inr ⟨n,o,rfl,eo,?_⟩
  induction o using O.casesOn with
  | edict=>exact .inl ⟨rfl,inE_at h⟩
  | sdict m=>exact .inr (.inl ⟨m,(mStr h nS).imp fun _ q=>⟨rfl,q⟩⟩)
  | idict m=>exact .inr (.inr ⟨m,(mInt h nS).imp fun _ q=>⟨rfl,q⟩⟩)
  | _=>exact nS' h
 | _=>exact nS' h
theorem hasB_of {h:Heap} {ov:Option Value} {o:Option V} {c:Bool} (hk:match o with | some u=>∃ v,ov = some v∧IsV ρ h u v | none=>ov = none) (hc:hasB o = some c):ov.isSome = c:=by
 rw [some_of_lk hc]
 induction o using Option.casesOn with
 | none=>rw [show ov = none from hk];rfl
 | some u=>refine x1a2 hk fun v p _=>?_;clear hk;rw [p];rfl
theorem inC_ok {x y:V} {v w:Value} {c:Bool} (h:inC x y σ = some c) (R:Rel C F ρ σ s) (hx:IsV ρ s.heap x v) (hy:IsV ρ s.heap y w) (hQ:∀ t,Q (.bool c) { s with toks:=t }) :
  wpAny (model PW C.w) A (compareOp .In v w) Q E s:=by
 rcases inC_at h with ⟨l,e,h⟩ | ⟨n,o,e,eo,h⟩
 ·rw [e] at hy
  refine x2a3 (hy.inv :) fun a vs ew ht hs=>?_
  rw [ew]
  rcases inL_at h with ⟨b,e,h⟩ | ⟨b,e,h⟩
  ·rw [e] at hx
   refine x1a1 (hx.inv :) fun t ev=>?_
   refine x0a2 (inS_ok (A:=A.in1) (t:=t) (s:=s) h hs :) fun h1 h2=>?_
   rw [ev]
   refine in_tupleAt (isStrB b) ht (fun y hy=>h1 y (List.mem_toArray.mp hy)) ?_
   rw [← Array.any_toList,← h2];exact hQ s.toks
  ·rw [e] at hx
   refine x1a1 (hx.inv :) fun t ev=>?_
   refine x0a2 (inI_ok (A:=A.in1) (t:=t) (s:=s) h hs :) fun h1 h2=>?_
   rw [ev]
   refine in_tupleAt (isIntB b) ht (fun y hy=>h1 y (List.mem_toArray.mp hy)) ?_
   rw [← Array.any_toList,← h2];exact hQ s.toks
 ·rw [e] at hy
  refine x1a2 (hy.inv :) fun a ew hn=>?_
  have io:=R.thing hn eo
  rw [ew]
  rcases h with ⟨e,ec,h⟩ | ⟨m,b,e,ex,h⟩ | ⟨m,b,e,ex,h⟩
  ·rw [e] at io
   refine x0a3 io fun hs d1 d2=>?_;clear io
   rw [ec] at hQ
   rcases h with ⟨b,e⟩ | ⟨b,e⟩
   ·rw [e] at hx
    refine x1a1 (hx.inv :) fun t ev=>?_
    rw [ev];exact wpAny_in_of (strKind_is _ _ b t) hs d1.mapOf (hQ _)
   ·rw [e] at hx
    refine x1a1 (hx.inv :) fun t ev=>?_
    rw [ev];exact wpAny_in_of (intKind_is _ _ b t) hs d2.mapOf (hQ _)
  ·rw [e] at io
   obtain ⟨hs,kvs,d,hk⟩:=io
   rw [ex] at hx
   refine x1a1 (hx.inv :) fun t ev=>?_
   rw [ev]
   refine wpAny_in_of (strKind_is _ _ b t) hs d.mapOf ?_
   rw [hasB_of (hk.at (x:=b)) h];exact hQ _
  ·rw [e] at io
   obtain ⟨hs,kvs,d,hk⟩:=io
   rw [ex] at hx
   refine x1a1 (hx.inv :) fun t ev=>?_
   rw [ev]
   refine wpAny_in_of (intKind_is _ _ b t) hs d.mapOf ?_
   rw [hasB_of (hk.at (x:=b)) h];exact hQ _
theorem notIn_of {v w:Value} (h:wpAny (model PW C.w) A (compareOp .In v w) (fun u s'=>∀ b,u = .bool b→Q (.bool (!b)) s') E s):wpAny (model PW C.w) A (compareOp .NotIn v w) Q E s:=by
 have h':wpAny (model PW C.w) A (contains w v >>= fun b=>(pure (Value.bool b):Sem Value)) (fun u s'=>∀ b,u = .bool b→Q (.bool (!b)) s') E s:=h
 show wpAny (model PW C.w) A (contains w v >>= fun b=>(pure (Value.bool (!b)):Sem Value)) Q E s
 intro Γ p hΓ
 have:=h' Γ p hΓ
 rw [Sem.wp_bind'] at this ⊢
 exact Sem.wp_mono _ Γ _ (fun b p' s' q=>q b rfl) (fun _ _ _ q=>q) _ _ this
theorem IsKS.len {ρ:Va} {h:Heap}:∀ {m:List (Nat×V)} {kvs:List (Str×Value)},IsKS ρ h m kvs→m.length = kvs.length:=by
 intro m kvs q
 induction q with
 | nil=>rfl
 | cons _ _ _ ih=>exact congrArg (· + 1) ih
theorem hitsD_ok (hu:A.units + 5 < cLine) {ys:List (Nat×V)} {kb:List (Str×Value)} (hy:IsKS ρ s.heap ys kb) (xs:List (Nat×V)):∀ (ka:List (Str×Value)) (r:Bool),hitsD xs ys = some r→IsKS ρ s.heap xs ka→KeqHits A s kb ka r:=by
 induction xs with
 | nil =>
  intro ka r h hx
  cases hx
  (refine jS h fun j=>?_;clear h;subst j)
  exact .nil
 | cons p xs ih =>
  intro ka r h hx
  cases hx with
  | @cons k _ x v _ vs e a rest =>
  subst e
  have h':(match lk ys (key k) with | none=>some false | some y=>andO (eqF 5 x y) (hitsD xs ys)) = some r:=h
  have hl:=hy.at (x:=k)
  induction el:lk ys (key k) using Option.casesOn with
  | none =>
   rw [el] at h' hl
   (refine jS h' fun j=>?_;clear h';subst j)
   exact .miss hl
  | some y =>
   rw [el] at h' hl
   refine x1a2 hl fun v e1 e2=>?_;clear hl
   dsimp only at h'
   induction ee:eqF 5 x y using Option.casesOn with
   | none=>rw [ee] at h';exact nS' h'
   | some b =>
    rw [ee] at h'
    induction er:hitsD xs ys using Option.casesOn with
    | none=>rw [er] at h';exact nS' h'
    | some b' =>
     rw [er] at h'
     have:r = (b && b'):=by induction b using Bool.casesOn <;> induction b' using Bool.casesOn <;> (refine jS h' fun j=>?_;clear h';subst j) <;> rfl
     subst this
     exact .hit e1 (eqF_ok 5 A hu _ _ _ _ _ ee a e2).1 (ih _ _ er rest)
theorem dictO_ok {o:Option O} {f:List (Nat×V)→Option Bool} {c:Bool} (h:dictO o f = some c):∃ xs,o = some (.sdict xs)∧f xs = some c:=by
 refine x1a2 (mSome h nS :) fun x e h=>?_
 rw [e]
 induction x using O.casesOn with
 | sdict xs=>exact ⟨_,rfl,h⟩
 | _=>exact nS' h
theorem neT_ok {x y:V} {v w:Value} {c:Bool} (hu:A.units + 6 < cLine) (h:neT x y σ = some c) (R:Rel C F ρ σ s) (hx:IsV ρ s.heap x v) (hy:IsV ρ s.heap y w) (hQ:Q (.bool c) s):wpAny (model PW C.w) A (compareOp .NotEq v w) Q E s:=by
 have other:notO (eqTop x y) = some c→wpAny (model PW C.w) A (compareOp .NotEq v w) Q E s:=fun h=>by
  refine x1a2 (notO_ok h :) fun b hb q2q=>?_;subst q2q
  refine x0a2 (eqTop_ok hb :) fun h1 h2=>?_
  exact neF_ok (n:=5) hu h1 hx hy h2 _ _ _ _ hQ
 induction x using V.casesOn with
 | loc n =>
  induction y using V.casesOn with
  | loc m =>
   have h':notO (eqDD (σ.at n) (σ.at m)) = some c:=h
   refine x1a2 (notO_ok h' :) fun b hb q2q=>?_;subst q2q
   refine x1a2 (dictO_ok hb :) fun xs ex hb=>?_
   refine x1a2 (dictO_ok hb :) fun ys ey hb=>?_
   cases hx with
   | @loc _ a1 ha =>
   cases hy with
   | @loc _ b1 hb' =>
   obtain ⟨na,ka,da,ia⟩:=R.thing ha ex
   obtain ⟨nb,kb,db,ib⟩:=R.thing hb' ey
   have la:len xs = ka.length:=by rw [len_eq];exact ia.len
   have lb:len ys = kb.length:=by rw [len_eq];exact ib.len
   have hin:A.in1.units + 5 < cLine:=by show A.units + 1 + 5 < cLine;lia
   induction q:Nat.beq (len xs) (len ys) using Bool.casesOn with
   | false =>
    rw [q] at hb
    (refine jS hb fun j=>?_;clear hb;subst j)
    have hne:ka.length≠kb.length:=fun z=>by rw [la,lb,z,Nat.beq_refl] at q;exact tf' q
    refine keq_ne (r:=true) na nb da db (by lia) (fun z=>absurd z hne) ?_
    have:(ka.length == kb.length) = false:=by simpa using hne
    rw [this];exact hQ
   | true =>
    rw [q] at hb
    refine keq_ne (r:=b) na nb da db (by lia) (fun _=>hitsD_ok hin ib _ _ _ hb ia) ?_
    have:(ka.length == kb.length) = true:=by rw [← la,← lb];simpa using Nat.eq_of_beq_eq_true q
    rw [this];exact hQ
  | _=>exact nS' h
 | _=>exact other h
theorem int2_at {f:Int→Int→Bool} {x y:V} {v w:Value} {c:Bool} (hi:int2 f x y = some c) (hx:IsV ρ s.heap x v) (hy:IsV ρ s.heap y w):∃ a b t u,v = .int a t∧w = .int b u∧c = f a b:=by
 refine x1a2 (mInt hi nS :) fun a ex h=>?_
 refine x1a2 (mInt h nS :) fun b ey h=>?_
 rw [ex] at hx
 rw [ey] at hy
 refine x1a1 (hx.inv :) fun t e1=>?_
 refine x1a1 (hy.inv :) fun u e2=>?_
 exact ⟨a,b,t,u,e1,e2,(Option.some.inj h).symm⟩
theorem ble_dec (m n:Nat):Nat.ble (m + 1) n = decide (m < n):=by
 by_cases q:m < n
 ·rw [decide_eq_true q];exact Nat.ble_eq_true_of_le q
 ·rw [decide_eq_false q];exact Bool.eq_false_iff.mpr fun z=>q (Nat.le_of_ble_eq_true z)
theorem ltI_dec:∀ a b:Int,ltI a b = decide (a < b)
 | .ofNat a,.ofNat b=>(ble_dec a b).trans (decide_eq_decide.mpr Int.ofNat_lt.symm)
 | .ofNat a,.negSucc b=>(decide_eq_false (Int.not_lt.mpr (Int.le_of_lt (Int.lt_of_lt_of_le (Int.negSucc_lt_zero b) (Int.natCast_nonneg a))))).symm
 | .negSucc a,.ofNat b=>(decide_eq_true (Int.lt_of_lt_of_le (Int.negSucc_lt_zero a) (Int.natCast_nonneg b))).symm
 | .negSucc a,.negSucc b=>(ble_dec b a).trans (decide_eq_decide.mpr (by lia))
theorem leI_dec (a b:Int):leI a b = decide (a≤b):=by
 show notB (ltI b a) = _
 rw [ltI_dec]
 by_cases q:b < a
 ·rw [decide_eq_true q,decide_eq_false (Int.not_le.mpr q)];rfl
 ·rw [decide_eq_false q,decide_eq_true (Int.not_lt.mp q)];rfl
theorem isN_at {x y:V} {v w:Value} {c:Bool} (hi:isN x y = some c) (hx:IsV ρ s.heap x v) (hy:IsV ρ s.heap y w):w = .none∧(v == .none) = c:=by
 induction hy using IsV.casesOn with
 | none =>
  refine ⟨rfl,?_⟩
  induction hx using IsV.casesOn with
  | opq _ _=>exact nS' hi
  | _=>exact Option.some.inj hi
 | _=>exact nS' hi
theorem cmpV_ok {o:CmpOp} {x y:V} {v w:Value} {c:Bool} (hu:A.units + 6 < cLine) (h:cmpV o x y σ = some c) (R:Rel C F ρ σ s) (hx:IsV ρ s.heap x v) (hy:IsV ρ s.heap y w) (hQ:∀ t,Q (.bool c) { s with toks:=t }) :
  wpAny (model PW C.w) A (compareOp o v w) Q E s:=by
 have hQ0:Q (.bool c) s:=hQ s.toks
 cases o with
 | Eq =>
  refine x0a2 (eqTop_ok h :) fun h1 h2=>?_
  exact (eqF_ok 6 A hu _ _ _ _ _ h1 hx hy).2.1 h2 _ _ _ _ hQ0
 | NotEq=>exact neT_ok hu h R hx hy hQ0
 | Lt=>refine x4a3 (int2_at h hx hy :) fun a b t u q4q q5q q6q=>?_;subst q4q;subst q5q;subst q6q;exact P.lt_int (ltI_dec a b▸hQ0)
 | LtE=>refine x4a3 (int2_at h hx hy :) fun a b t u q4q q5q q6q=>?_;subst q4q;subst q5q;subst q6q;exact P.le_int (leI_dec a b▸hQ0)
 | Gt=>refine x4a3 (int2_at h hx hy :) fun a b t u q4q q5q q6q=>?_;subst q4q;subst q5q;subst q6q;exact P.gt_int ((show (decide (a > b)) = ltI b a from (ltI_dec b a).symm)▸hQ0)
 | GtE=>refine x4a3 (int2_at h hx hy :) fun a b t u q4q q5q q6q=>?_;subst q4q;subst q5q;subst q6q;exact P.ge_int ((show (decide (a ≥ b)) = leI b a from (leI_dec b a).symm)▸hQ0)
 | Is=>refine x0a2 (isN_at h hx hy :) fun q0q e=>?_;subst q0q;exact is_none_gen (e▸hQ0)
 | IsNot =>
  refine x1a2 (notO_ok h :) fun b hb q2q=>?_;subst q2q
  refine x0a2 (isN_at hb hx hy :) fun q0q e=>?_;subst q0q
  exact isnot_none_gen (e▸hQ0)
 | In=>exact inC_ok h R hx hy hQ
 | NotIn =>
  refine x1a2 (notO_ok h :) fun b hb q2q=>?_;subst q2q
  refine notIn_of (inC_ok hb R hx hy fun t=>?_)
  intro b' q;cases q
  exact hQ t
theorem cmpK_ok {κ:KB} {c:Option Bool} (h:cmpK κ σ c = true):∃ b,c = some b∧κ b σ = true:=by
 induction c using Option.casesOn with
 | none=>exact ft' h
 | some b=>exact ⟨b,rfl,h⟩
theorem cmp1_ok {ks:Kd} {cx:PySem.Expr→Mine.C} {r:Rc} (hc:WCx C ks r cx) {o:CmpOp} {a b:PySem.Expr} {p:Pos}:WC C ks r (.Compare a [o] [b] p) (cCmp1 cx o a b):=by
 have hm:behindInMarks o b = false∨∀ κ ε v σ,(cx b).x r v σ κ ε = false:=by
  by_cases q:∃ x y z,b = .Set x y z
  ·refine x3a1 q fun x y z q3q=>?_;clear q;subst q3q
   exact .inr fun κ ε v σ=>by rw [hc.set];rfl
  ·left
   induction b using Expr.casesOn <;> first | rfl | exact absurd ⟨_,_,_,rfl⟩ q
 refine ⟨fun v σ κ ε h A F env ρ s Q E H R G GE=>?_,fun v σ κ ε h A F env ρ s Q E H R G GE=>?_⟩
 ·rcases hm with hm | hm
  ·refine wpAny_Compare1 ((hc.ok a).x v σ _ ε h A F env ρ s _ E H R ?_ GE) hm
   intro ρ1 σ1 s1 x xv hx N1 ix
   refine (hc.ok b).x v σ1 _ ε hx A F env ρ1 s1 _ E (H.mono N1.pre) N1.rel ?_ (GE.next N1)
   intro ρ2 σ2 s2 y yv hy N2 iy
   refine x1a2 (cmpK_ok hy :) fun c hc' hκ=>?_
   have N3:=N1.trans N2
   refine cmpV_ok ?_ hc' N2.rel (ix.mono N2.pre N2.tk) iy fun t=>G _ _ _ _ _ hκ (N3.trans (.tok N2.rel t)) .bool
   have:=H.units;have:=H.dep;unfold cLine;lia
  ·refine wpAny_mono (Q:=fun _ _=>False) (E:=E) ?_ (fun _ _ q=>q.elim) (fun _ _ q=>q)
   rw [arm_eval_Compare]
   refine wpAny_bind ((hc.ok a).x v σ _ ε h A F env ρ s _ E H R ?_ GE)
   intro ρ1 σ1 s1 x xv hx N1 ix
   exact (Bool.false_ne_true ((hm _ _ _ _).symm.trans hx)).elim
 ·rcases hm with hm | hm
  ·refine wpAny_isTrue_Compare1 ((hc.ok a).x v σ _ ε h A F env ρ s _ E H R ?_ GE) hm
   intro ρ1 σ1 s1 x xv hx N1 ix
   refine (hc.ok b).x v σ1 _ ε hx A F env ρ1 s1 _ E (H.mono N1.pre) N1.rel ?_ (GE.next N1)
   intro ρ2 σ2 s2 y yv hy N2 iy
   refine x1a2 (cmpK_ok hy :) fun c hc' hκ=>?_
   have N3:=N1.trans N2
   refine cmpV_ok ?_ hc' N2.rel (ix.mono N2.pre N2.tk) iy fun t=>wpAny_truthy_bool (G _ _ _ _ hκ (N3.trans (.tok N2.rel t)))
   have:=H.units;have:=H.dep;unfold cLine;lia
  ·rw [arm_isTrue_Compare]
   refine wpAny_bind ((hc.ok a).x v σ _ ε h A F env ρ s _ E H R ?_ GE)
   intro ρ1 σ1 s1 x xv hx N1 ix
   exact (Bool.false_ne_true ((hm _ _ _ _).symm.trans hx)).elim
theorem cmp_ok {ks:Kd} {cx:PySem.Expr→Mine.C} {r:Rc} (hc:WCx C ks r cx) {os:List CmpOp} {a:PySem.Expr} {bs:List PySem.Expr} {p:Pos}:WC C ks r (.Compare a os bs p) (cCmp cx a os bs):=by
 induction os using List.casesOn with
 | nil=>exact noC_ok
 | cons o t =>
 induction t using List.casesOn with
 | cons _ _=>exact noC_ok
 | nil =>
 induction bs using List.casesOn with
 | nil=>exact noC_ok
 | cons b t =>
 induction t using List.casesOn with
 | nil=>exact cmp1_ok hc
 | cons _ _=>exact noC_ok
end
end Mine
end
section
namespace Mine
open PySem.SeqAt
theorem bitAnd_nat (m n:Nat):Builtin.bitAnd (m:Int) (n:Int) = ((m &&& n:Nat):Int):=by
 unfold Builtin.bitAnd
 rw [decide_eq_true (Int.natCast_nonneg m),decide_eq_true (Int.natCast_nonneg n)]
 rfl
theorem bitOr_nat (m n:Nat):Builtin.bitOr (m:Int) (n:Int) = ((m ||| n:Nat):Int):=by
 unfold Builtin.bitOr
 have e:∀ k:Nat,Builtin.bitNot (k:Int) < 0:=fun k=>by unfold Builtin.bitNot;lia
 have e2:∀ k:Int,Builtin.bitNot (Builtin.bitNot k) = k:=fun k=>by unfold Builtin.bitNot;lia
 unfold Builtin.bitAnd
 rw [decide_eq_false (by have:=e m;lia),decide_eq_false (by have:=e n;lia)]
 dsimp only
 rw [e2,e2,e2]
 rfl
theorem two_parts {a b c:Nat} (h0:a % 2 = b % 2 + c % 2) (h1:a / 2 = b / 2 + c / 2):a = b + c :=
 (Nat.mod_add_div a 2).symm.trans (by rw [h0,h1,Nat.mul_add,Nat.add_add_add_comm,Nat.mod_add_div,Nat.mod_add_div])
theorem lt2 (m:Nat):m % 2 < 2:=Nat.mod_lt _ (Nat.le.step .refl)
theorem oxa2:∀ a < 2,∀ b < 2,a ||| b = (a ^^^ b) + (a &&& b):=by decide
theorem or_xor_and (m n:Nat):m ||| n = (m ^^^ n) + (m &&& n):=by
 induction m using Nat.strongRecOn generalizing n with
 | ind m ih =>
  by_cases h0:m = 0
  ·rw [h0,Nat.zero_or,Nat.zero_xor,Nat.zero_and];rfl
  ·refine two_parts ?_ ?_
   ·rw [Nat.or_mod_two_pow (n:=1),Nat.xor_mod_two_pow (n:=1),Nat.and_mod_two_pow (n:=1)]
    exact oxa2 _ (lt2 m) _ (lt2 n)
   ·rw [Nat.or_div_two,Nat.xor_div_two,Nat.and_div_two]
    exact ih _ (Nat.div_lt_self (Nat.pos_of_ne_zero h0) (Nat.le.refl)) _
theorem bitXor_nat (m n:Nat):Builtin.bitXor (m:Int) (n:Int) = ((m ^^^ n:Nat):Int):=by
 unfold Builtin.bitXor
 rw [bitOr_nat,bitAnd_nat]
 have:=or_xor_and m n
 lia
noncomputable def opSem (ip:Bool) (o:Operator) (a b:Value):Sem Value:=match ip with
 | true=>inplaceOp o a b
 | false=>binaryOp o a b
theorem ifO_ok {b:Bool} {x:Option Int} {c:Int} (h:ifO b x = some c):b = true∧x = some c:=by induction b using Bool.casesOn <;> first | exact ⟨rfl,h⟩ | exact nS' h
theorem gN_ok {b:Bool} {n m:Nat} (h:gN b n = some m):b = true∧n = m:=by induction b using Bool.casesOn <;> first | (cases h;exact ⟨rfl,rfl⟩) | exact nS' h
set_option tactic.hygienic true in
theorem smN_ok {a b:Nat} (h:smN a b = true):a≤1152921504606846976∧b≤1000:=by
 unfold smN at h
 (revert h;refine mB (fun _ h=>?_) fun _ h=>?_)
 ·rename_i q;exact ⟨Nat.le_of_ble_eq_true q,Nat.le_of_ble_eq_true h⟩
 ·exact ft' h
theorem sm_ok {k:Nat} {a:Int} (h:sm k a = true):a.natAbs≤k:=by
 induction a using Int.casesOn with
 | ofNat n=>exact Nat.le_of_ble_eq_true h
 | negSucc n=>exact Nat.le_of_ble_eq_true h
theorem nn2_ok {f:Nat→Nat→Option Nat} {a b c:Int} (h:nn2 f a b = some c):∃ m n k:Nat,a = (m:Int)∧b = (n:Int)∧c = (k:Int)∧f m n = some k:=by
 induction a using Int.casesOn with
 | negSucc a=>exact nS' h
 | ofNat m =>
  induction b using Int.casesOn with
  | negSucc b=>exact nS' h
  | ofNat n =>
   unfold nn2 at h
   dsimp only at h
   induction e:f m n using Option.casesOn with
   | none=>rw [e] at h;exact nS' h
   | some k=>rw [e] at h;(refine jS h fun j=>?_;clear h;subst j);exact ⟨m,n,k,rfl,rfl,rfl,e⟩
section
variable {C:SC} {F:Fm} {ρ:Va} {σ:St} {s:Shared} {A:Around} {Q:Value→Shared→Prop} {E:Value→Shared→Prop}
theorem intOp_ok {ip:Bool} {o:Operator} {a b c:Int} {t u:Tok} (h:intOp o a b = some c) (hQ:Q (.int c s.toks) { s with toks:=s.toks + 1 }):wpAny (model PW C.w) A (opSem ip o (.int a t) (.int b u)) Q E s:=by
 have big:∀ {m:Nat},m≤1152921504606846976→(m:Int).natAbs < 2 ^ 64:=fun {m} q=>by
  have:(2:Nat) ^ 64 = 18446744073709551616:=by decide
  lia
 induction o using Operator.casesOn with
 | Add=>(refine jS h fun j=>?_;clear h;subst j);induction ip using Bool.casesOn;exact P.add_int hQ;exact P.iadd_int hQ
 | Sub=>(refine jS h fun j=>?_;clear h;subst j);induction ip using Bool.casesOn;exact P.sub_int hQ;exact P.isub_int hQ
 | Mult =>
  refine x0a2 (ifO_ok (b:=sm 1152921504606846976 a) (x:=some (a * b)) h :) fun h1 h2=>?_
  (refine jS h2 fun j=>?_;clear h2;subst j)
  have hm:IntMulOk a b:=.of_left (intBits_le (by have:=sm_ok h1;have e:(2:Nat) ^ 64 = 18446744073709551616:=(by decide);lia))
  induction ip using Bool.casesOn
  ·exact P.mul_int hQ hm
  ·exact P.imul_int hQ hm
 | FloorDiv =>
  have h':(match beqI b 0 with | true=>none | false=>ifO (sm 1000000 b) (some (Int.fdiv a b))) = some c:=h
  rw [beqI_eq] at h'
  by_cases q:b = 0
  ·rw [decide_eq_true q] at h';exact nS' h'
  ·rw [decide_eq_false q] at h'
   refine x0a2 (ifO_ok h' :) fun h1 h2=>?_
   (refine jS h2 fun j=>?_;clear h2;subst j)
   have hp:=PyProof.noPylong_small (x:=a) (y:=b) (by have:=sm_ok h1;lia)
   induction ip using Bool.casesOn
   ·exact floordiv_int q hQ (.inl hp)
   ·exact ifloordiv_int q hQ (.inl hp)
 | Mod =>
  have h':(match beqI b 0 with | true=>none | false=>some (Int.fmod a b)) = some c:=h
  rw [beqI_eq] at h'
  by_cases q:b = 0
  ·rw [decide_eq_true q] at h';exact nS' h'
  ·rw [decide_eq_false q] at h'
   (refine jS h' fun j=>?_;clear h';subst j)
   induction ip using Bool.casesOn
   ·exact mod_int' q hQ
   ·exact imod_int q hQ
 | Pow =>
  refine x3a4 (nn2_ok (f:=fun a b=>gN (smN a b) (a ^ b)) (a:=a) (b:=b) (c:=c) h :) fun m n k q3q q4q q5q e=>?_;subst q3q;subst q4q;subst q5q
  refine x0a2 (gN_ok e :) fun h1 q1q=>?_;subst q1q
  refine x0a2 (smN_ok h1 :) fun h2 h3=>?_
  have ec:((m ^ n:Nat):Int) = (m:Int) ^ ((n:Int)).toNat:=by simp
  rw [ec] at hQ
  induction ip using Bool.casesOn
  ·exact pow_int_small (by lia) (by lia) (big h2) hQ
  ·exact ipow_int_small (by lia) (by lia) (big h2) hQ
 | LShift =>
  refine x3a4 (nn2_ok (f:=fun a b=>gN (smN a b) (a * 2 ^ b)) (a:=a) (b:=b) (c:=c) h :) fun m n k q3q q4q q5q e=>?_;subst q3q;subst q4q;subst q5q
  refine x0a2 (gN_ok e :) fun h1 q1q=>?_;subst q1q
  refine x0a2 (smN_ok h1 :) fun h2 h3=>?_
  have ec:((m * 2 ^ n:Nat):Int) = (m:Int) * 2 ^ ((n:Int)).toNat:=by simp
  rw [ec] at hQ
  induction ip using Bool.casesOn
  ·exact lshift_int_small (by lia) (by lia) (big h2) hQ
  ·exact ilshift_int_small (by lia) (by lia) (big h2) hQ
 | RShift =>
  refine x3a4 (nn2_ok (f:=fun a b=>some (a / 2 ^ b)) (a:=a) (b:=b) (c:=c) h :) fun m n k q3q q4q q5q e=>?_;subst q3q;subst q4q;subst q5q
  (refine jS e fun j=>?_;clear e;subst j)
  have ec:((m / 2 ^ n:Nat):Int) = (m:Int).fdiv (2 ^ ((n:Int)).toNat):=by
   rw [Int.fdiv_eq_ediv_of_nonneg _ (Int.pow_nonneg (by decide))]
   simp
  rw [ec] at hQ
  induction ip using Bool.casesOn
  ·exact rshift_int (by lia) hQ
  ·exact irshift_int (by lia) hQ
 | BitAnd =>
  refine x3a4 (nn2_ok (f:=fun a b=>some (Nat.land a b)) (a:=a) (b:=b) (c:=c) h :) fun m n k q3q q4q q5q e=>?_;subst q3q;subst q4q;subst q5q
  (refine jS e fun j=>?_;clear e;subst j)
  induction ip using Bool.casesOn
  ·exact and_int (bitAnd_nat m n▸hQ)
  ·exact iand_int (bitAnd_nat m n▸hQ)
 | BitOr =>
  refine x3a4 (nn2_ok (f:=fun a b=>some (Nat.lor a b)) (a:=a) (b:=b) (c:=c) h :) fun m n k q3q q4q q5q e=>?_;subst q3q;subst q4q;subst q5q
  (refine jS e fun j=>?_;clear e;subst j)
  induction ip using Bool.casesOn
  ·exact or_int (bitOr_nat m n▸hQ)
  ·exact ior_int (bitOr_nat m n▸hQ)
 | BitXor =>
  refine x3a4 (nn2_ok (f:=fun a b=>some (Nat.xor a b)) (a:=a) (b:=b) (c:=c) h :) fun m n k q3q q4q q5q e=>?_;subst q3q;subst q4q;subst q5q
  (refine jS e fun j=>?_;clear e;subst j)
  induction ip using Bool.casesOn
  ·exact xor_int (bitXor_nat m n▸hQ)
  ·exact ixor_int (bitXor_nat m n▸hQ)
 | _=>exact nS' h
end
end Mine
end
section
set_option backward.match.sparseCases true
namespace Mine
open PySem.SeqAt
section
variable {S:List Value}
theorem consO_ok {x:Option Bt} {y:Option (List Bt)} {l:List Bt} (h:consO x y = some l):∃ b r,x = some b∧y = some r∧l = b :: r:=by
 induction x using Option.casesOn with
 | none=>exact nS' h
 | some b =>
  induction y using Option.casesOn with
  | none=>exact nS' h
  | some r=>(refine jS h fun j=>?_;clear h;subst j);exact ⟨b,r,rfl,rfl,rfl⟩
structure BitOp (f:Bt→Bt→Option Bt) (op:Nat→Nat→Nat):Prop where
 bit:∀ {S:List Value} {x y b:Bt} {p q:Nat},f x y = some b→IsBt S x p→IsBt S y q→IsBt S b (op p q)
 step:∀ p q m n:Nat,p < 2→q < 2→op (p + 2 * m) (q + 2 * n) = op p q + 2 * op m n
 zero:op 0 0 = 0
theorem zipZ_ok {f:Bt→Bt→Option Bt} {op:Nat→Nat→Nat} (B:BitOp f op):∀ {l k:List Bt} {n:Nat},zipZ f l = some k→IsBts S l n→IsBts S k (op 0 n):=by
 intro l k n h x
 induction x generalizing k with
 | nil=>(refine jS h fun j=>?_;clear h;subst j);rw [B.zero];exact .nil
 | @cons y q ys n hy hr ih =>
  refine x2a3 (consO_ok (x:=f .z y) (y:=zipZ f ys) h :) fun b r hb hr' q4q=>?_;subst q4q
  have:=B.step 0 q 0 n (by lia) hy.lt
  rw [show 0 + 2 * 0 = 0 from rfl] at this
  rw [this]
  exact .cons (B.bit hb .z hy) (ih hr')
theorem zip2_ok {f:Bt→Bt→Option Bt} {op:Nat→Nat→Nat} (B:BitOp f op):∀ {a b l:List Bt} {m n:Nat},zip2 f a b = some l→IsBts S a m→IsBts S b n→IsBts S l (op m n):=by
 intro a b l m n h x
 induction x generalizing b l n with
 | nil=>exact zipZ_ok B (show zipZ f b = some l from h)
 | @cons x p xs m hx hr ih =>
  intro y
  induction y using IsBts.casesOn with
  | nil =>
   refine x2a3 (consO_ok (x:=f x .z) (y:=zip2 f xs []) h :) fun b r hb hr' q4q=>?_;subst q4q
   have:=B.step p 0 m 0 hx.lt (by lia)
   rw [show 0 + 2 * 0 = 0 from rfl] at this
   rw [this]
   exact .cons (B.bit hb hx .z) (ih hr' .nil)
  | @cons y q ys n hy hs =>
   refine x2a3 (consO_ok (x:=f x y) (y:=zip2 f xs ys) h :) fun b r hb hr' q4q=>?_;subst q4q
   rw [B.step p q m n hx.lt hy.lt]
   exact .cons (B.bit hb hx hy) (ih hr' hs)
theorem stepOf {op:Nat→Nat→Nat} (hd:∀ a b,op a b / 2 = op (a / 2) (b / 2)) (hm:∀ a b,op a b % 2 = op (a % 2) (b % 2)) (p q m n:Nat) (hp:p < 2) (hq:q < 2):op (p + 2 * m) (q + 2 * n) = op p q + 2 * op m n:=by
 have e:=Nat.mod_add_div (op (p + 2 * m) (q + 2 * n)) 2
 rw [hm,hd,Nat.add_mul_mod_self_left,Nat.add_mul_mod_self_left,Nat.mod_eq_of_lt hp,Nat.mod_eq_of_lt hq,Nat.add_mul_div_left _ _ (Nat.le.step .refl),Nat.add_mul_div_left _ _ (Nat.le.step .refl),Nat.div_eq_of_lt hp,Nat.div_eq_of_lt hq,Nat.zero_add,Nat.zero_add] at e
 exact e.symm
theorem or1:∀ q < 2,1 ||| q = 1∧q ||| 1 = 1:=by decide
theorem andOp:BitOp bAnd (fun m n=>m &&& n) where
 bit:=by
  intro S x y b p q h hx hy
  cases hx with
  | z=>(refine jS h fun j=>?_;clear h;subst j);show IsBt S .z (0 &&& q);rw [Nat.zero_and];exact .z
  | o =>
   have e:b = y:=by induction y using Bt.casesOn <;> exact (Option.some.inj h).symm
   rw [e,show 1 &&& q = q from (Nat.one_and_eq_mod_two q).trans (Nat.mod_eq_of_lt hy.lt)];exact hy
  | @s i j k t hx' =>
   cases hy with
   | z=>(refine jS h fun j=>?_;clear h;subst j);show IsBt S .z (k / 2 ^ j % 2 &&& 0);rw [Nat.and_zero];exact .z
   | o=>(refine jS h fun j=>?_;clear h;subst j);rw [show k / 2 ^ j % 2 &&& 1 = k / 2 ^ j % 2 from (Nat.and_one_is_mod _).trans (Nat.mod_mod _ _)];exact .s hx'
   | s _=>exact nS' h
 step:=stepOf (fun _ _=>Nat.and_div_two) fun _ _=>Nat.and_mod_two_pow (n:=1)
 zero:=rfl
theorem orOp:BitOp bOr (fun m n=>m ||| n) where
 bit:=by
  intro S x y b p q h hx hy
  cases hx with
  | z =>
   have e:b = y:=by induction y using Bt.casesOn <;> exact (Option.some.inj h).symm
   rw [e,show 0 ||| q = q from Nat.zero_or q];exact hy
  | o =>
   have e:b = .o:=by induction y using Bt.casesOn <;> exact (Option.some.inj h).symm
   rw [e,show 1 ||| q = 1 from (or1 q hy.lt).1];exact .o
  | @s i j k t hx' =>
   cases hy with
   | z=>(refine jS h fun j=>?_;clear h;subst j);rw [show k / 2 ^ j % 2 ||| 0 = k / 2 ^ j % 2 from Nat.or_zero _];exact .s hx'
   | o=>(refine jS h fun j=>?_;clear h;subst j);rw [show k / 2 ^ j % 2 ||| 1 = 1 from (or1 _ (lt2 _)).2];exact .o
   | s _=>exact nS' h
 step:=stepOf (fun _ _=>Nat.or_div_two) fun _ _=>Nat.or_mod_two_pow (n:=1)
 zero:=rfl
theorem addOp:BitOp bAdd (fun m n=>m + n) where
 bit:=by
  intro S x y b p q h hx hy
  induction x using Bt.casesOn with
  | z=>(refine jS h fun j=>?_;clear h;subst j);cases hx;simpa using hy
  | _=>induction y using Bt.casesOn with
   | z=>(refine jS h fun j=>?_;clear h;subst j);cases hy;simpa using hx
   | _=>exact nS' h
 step:=fun p q m n _ _=>by lia
 zero:=rfl
theorem IsBts.drop {m:Nat}:∀ (n:Nat) {l:List Bt} {m:Nat},IsBts S l m→IsBts S (l.drop n) (m / 2 ^ n):=by
 intro n
 induction n with
 | zero=>intro _ _ h;simpa using h
 | succ n ih =>
 intro _ _ h
 induction h using IsBts.casesOn with
 | nil=>simp;exact .nil
 | @cons b x l m hx hr =>
  have:=ih hr
  have e:(x + 2 * m) / 2 ^ (n + 1) = m / 2 ^ n:=by
   rw [Nat.pow_succ,Nat.mul_comm (2 ^ n) 2,← Nat.div_div_eq_div_mul]
   have:=hx.lt
   have e2:(x + 2 * m) / 2 = m:=by lia
   rw [e2]
  rw [e];exact this
theorem IsBts.take:∀ (n:Nat) {l:List Bt} {m:Nat},IsBts S l m→IsBts S (l.take n) (m % 2 ^ n):=by
 intro n
 induction n with
 | zero=>intro _ _ h;simp [Nat.mod_one];exact .nil
 | succ n ih =>
 intro _ _ h
 induction h using IsBts.casesOn with
 | nil=>simp;exact .nil
 | @cons b x l m hx hr =>
  have:=ih hr
  have e:(x + 2 * m) % 2 ^ (n + 1) = x + 2 * (m % 2 ^ n):=by
   have hxl:=hx.lt
   rw [Nat.pow_succ,Nat.mul_comm (2 ^ n) 2,Nat.mod_mul]
   have e1:(x + 2 * m) % 2 = x:=by lia
   have e2:(x + 2 * m) / 2 = m:=by lia
   rw [e1,e2]
  rw [e,List.take_succ_cons];exact .cons hx this
theorem IsBts.shl {l:List Bt} {m:Nat} (h:IsBts S l m):∀ n:Nat,IsBts S (shl n l) (m * 2 ^ n)
 | 0=>by rw [Nat.pow_zero,Nat.mul_one];exact h
 | n + 1=>by
  have:=IsBts.cons (.z:IsBt S .z 0) (IsBts.shl h n)
  have e:0 + 2 * (m * 2 ^ n) = m * 2 ^ (n + 1):=by rw [Nat.pow_succ,Nat.mul_comm (2 ^ n) 2,Nat.zero_add,Nat.mul_left_comm]
  rw [e] at this;exact this
theorem IsBts.lt:∀ {l:List Bt} {m:Nat},IsBts S l m→m < 2 ^ l.length:=by
 intro l m h
 induction h with
 | nil=>simp
 | @cons b x l m hx hr ih =>
  have:=hx.lt
  have:=ih
  rw [List.length_cons,Nat.pow_succ]
  lia
set_option tactic.hygienic true in
theorem isPow2_ok {m n:Nat} (h:isPow2 m = some n):m = 2 ^ n:=by
 unfold isPow2 at h
 (revert h;refine mB (fun _ h=>?_) fun _ h=>?_)
 ·exact nS' h
 ·(revert h;refine mB (fun _ h=>?_) fun _ h=>?_)
  ·rename_i q;(refine jS h fun j=>?_;clear h;subst j);exact Nat.eq_of_beq_eq_true q
  ·exact nS' h
end
end Mine
end
section
namespace Mine
open PySem.SeqAt
section
variable {C:SC} {F:Fm} {ρ:Va} {σ:St} {s:Shared} {A:Around} {Q:Value→Shared→Prop} {E:Value→Shared→Prop}
theorem bitsOf_ok {x:V} {v:Value} {h:Heap} {l:List Bt} (e:bitsOf x = some l) (hx:IsV ρ h x v):∃ (m:Nat) (t:Tok),v = .int (m:Int) t∧IsBts ρ.sym l m:=by
 induction hx using IsV.casesOn with
 | @bv k m t hb=>(refine jS e fun j=>?_;clear e;subst j);exact ⟨m,t,rfl,hb⟩
 | @int i t =>
  induction i using Int.casesOn with
  | negSucc n=>exact nS' e
  | ofNat n=>exact ⟨n,t,rfl,bitsN_ok e⟩
 | _=>exact nS' e
theorem natOf_ok {x:V} {v:Value} {h:Heap} {n:Nat} (e:natOf x = some n) (hx:IsV ρ h x v):∃ t:Tok,v = .int (n:Int) t:=by
 induction hx using IsV.casesOn with
 | @int i t =>
  induction i using Int.casesOn with
  | negSucc n=>exact nS' e
  | ofNat n=>(refine jS e fun j=>?_;clear e;subst j);exact ⟨t,rfl⟩
 | _=>exact nS' e
theorem pw2_ok {x:V} {v:Value} {h:Heap} {n:Nat} (e:pw2 x = some n) (hx:IsV ρ h x v):∃ t:Tok,v = .int ((2 ^ n:Nat):Int) t:=by
 unfold pw2 at e
 induction q:natOf x using Option.casesOn with
 | none=>rw [q] at e;exact nS' e
 | some m =>
  rw [q] at e
  refine x1a1 (natOf_ok q hx :) fun t q1q=>?_;subst q1q
  rw [isPow2_ok e]
  exact ⟨t,rfl⟩
theorem opt2_ok {f:List Bt→List Bt→Option (List Bt)} {a b:Option (List Bt)} {u:V} (e:opt2 f a b = some u):∃ x y l,a = some x∧b = some y∧f x y = some l∧u = .bv l:=by
 unfold opt2 at e
 induction a using Option.casesOn with
 | none=>exact nS' e
 | some x =>
  induction b using Option.casesOn with
  | none=>exact nS' e
  | some y =>
   dsimp only at e
   induction q:f x y using Option.casesOn with
   | none=>rw [q] at e;exact nS' e
   | some l=>rw [q] at e;(refine jS e fun j=>?_;clear e;subst j);exact ⟨x,y,l,rfl,rfl,q,rfl⟩
set_option tactic.hygienic true in
theorem optN_ok {f:List Bt→Nat→List Bt} {a:Option (List Bt)} {b:Option Nat} {u:V} (e:optN f a b = some u):∃ x n,a = some x∧b = some n∧u = .bv (f x n)∧x.length≤60∧n≤24:=by
 unfold optN at e
 induction a using Option.casesOn with
 | none=>exact nS' e
 | some x =>
  induction b using Option.casesOn with
  | none=>exact nS' e
  | some n =>
   dsimp only at e
   induction q:fitN x n using Bool.casesOn with
   | false=>rw [q] at e;exact nS' e
   | true =>
    rw [q] at e;(refine jS e fun j=>?_;clear e;subst j)
    unfold fitN at q
    rw [len_eq] at q
    (revert q;refine mB (fun _ q=>?_) fun _ q=>?_)
    ·rename_i z;exact ⟨x,n,rfl,rfl,rfl,Nat.le_of_ble_eq_true z,Nat.le_of_ble_eq_true q⟩
    ·exact ft' q
theorem pow_le_24 {n:Nat} (h:n≤24):2 ^ n≤16777216:=Nat.le_trans (Nat.pow_le_pow_right (by decide) h) (by decide)
theorem pow_le_60 {l:List Bt} {m:Nat} {S:List Value} (h:IsBts S l m) (hl:l.length≤60):m < 2 ^ 64:=Nat.lt_of_lt_of_le h.lt (Nat.pow_le_pow_right (by decide) (by lia))
theorem fdiv_nat (m n:Nat):((m:Int)).fdiv (n:Int) = ((m / n:Nat):Int):=by
 rw [Int.fdiv_eq_ediv_of_nonneg _ (Int.natCast_nonneg n)];simp
theorem fmod_nat (m n:Nat):((m:Int)).fmod (n:Int) = ((m % n:Nat):Int):=by
 rw [Int.fmod_eq_emod_of_nonneg _ (Int.natCast_nonneg n)];simp
set_option tactic.hygienic true in
theorem bvOp_ok {ip:Bool} {o:Operator} {x y u:V} {v w:Value} (h:bvOp o x y = some u) (hx:IsV ρ s.heap x v) (hy:IsV ρ s.heap y w) (back:∀ {l:List Bt} {m:Nat},u = .bv l→IsBts ρ.sym l m→Q (.int (m:Int) s.toks) { s with toks:=s.toks + 1 }) :
  wpAny (model PW C.w) A (opSem ip o v w) Q E s:=by
 induction o using Operator.casesOn with
 | Add =>
  refine x3a4 (opt2_ok h :) fun a b l ha hb hf hu=>?_
  refine x2a2 (bitsOf_ok ha hx :) fun m t q2q im=>?_;subst q2q
  refine x2a2 (bitsOf_ok hb hy :) fun n t' q2q in_=>?_;subst q2q
  have q:=back hu (zip2_ok addOp hf im in_)
  induction ip using Bool.casesOn
  ·exact P.add_int (by simpa using q)
  ·exact P.iadd_int (by simpa using q)
 | BitAnd =>
  refine x3a4 (opt2_ok h :) fun a b l ha hb hf hu=>?_
  refine x2a2 (bitsOf_ok ha hx :) fun m t q2q im=>?_;subst q2q
  refine x2a2 (bitsOf_ok hb hy :) fun n t' q2q in_=>?_;subst q2q
  have q:=back hu (zip2_ok andOp hf im in_)
  induction ip using Bool.casesOn
  ·exact and_int (bitAnd_nat m n▸q)
  ·exact iand_int (bitAnd_nat m n▸q)
 | BitOr =>
  refine x3a4 (opt2_ok h :) fun a b l ha hb hf hu=>?_
  refine x2a2 (bitsOf_ok ha hx :) fun m t q2q im=>?_;subst q2q
  refine x2a2 (bitsOf_ok hb hy :) fun n t' q2q in_=>?_;subst q2q
  have q:=back hu (zip2_ok orOp hf im in_)
  induction ip using Bool.casesOn
  ·exact or_int (bitOr_nat m n▸q)
  ·exact ior_int (bitOr_nat m n▸q)
 | Mult =>
  have h':bMul x y (pw2 y) = some u:=h
  unfold bMul at h'
  split at h'
  rotate_left
  ·refine x2a5 (optN_ok h' :) fun a n ha hb hu h1 h2=>?_
   refine x2a2 (bitsOf_ok ha hy :) fun m t q2q im=>?_;subst q2q
   refine x1a1 (pw2_ok hb hx :) fun t' q1q=>?_;subst q1q
   have q:=back hu (im.shl n)
   have hm:IntMulOk ((2 ^ n:Nat):Int) (m:Int):=.of_left (intBits_le (by rw [Int.natAbs_natCast];exact Nat.lt_of_le_of_lt (pow_le_24 h2) (by decide)))
   have e:((m * 2 ^ n:Nat):Int) = ((2 ^ n:Nat):Int) * (m:Int):=by rw [Nat.mul_comm];simp
   induction ip using Bool.casesOn
   ·exact P.mul_int (e▸q) hm
   ·exact P.imul_int (e▸q) hm
  rename_i n0 e0
  refine x2a5 (optN_ok h' :) fun a n ha hb0 hu h1 h2=>?_
  have hb:pw2 y = some n:=e0.trans hb0
  refine x2a2 (bitsOf_ok ha hx :) fun m t q2q im=>?_;subst q2q
  refine x1a1 (pw2_ok hb hy :) fun t' q1q=>?_;subst q1q
  have q:=back hu (im.shl n)
  have hm:IntMulOk (m:Int) ((2 ^ n:Nat):Int):=.of_left (intBits_le (by have:=pow_le_60 im h1;lia))
  have e:((m * 2 ^ n:Nat):Int) = (m:Int) * ((2 ^ n:Nat):Int):=by simp
  induction ip using Bool.casesOn
  ·exact P.mul_int (e▸q) hm
  ·exact P.imul_int (e▸q) hm
 | LShift =>
  refine x2a5 (optN_ok h :) fun a n ha hb hu h1 h2=>?_
  refine x2a2 (bitsOf_ok ha hx :) fun m t q2q im=>?_;subst q2q
  refine x1a1 (natOf_ok hb hy :) fun t' q1q=>?_;subst q1q
  have q:=back hu (im.shl n)
  have e:((m * 2 ^ n:Nat):Int) = (m:Int) * 2 ^ ((n:Int)).toNat:=by simp
  have hm:(m:Int).natAbs < 2 ^ 64:=by have:=pow_le_60 im h1;lia
  induction ip using Bool.casesOn
  ·exact lshift_int_small (by lia) (by lia) hm (e▸q)
  ·exact ilshift_int_small (by lia) (by lia) hm (e▸q)
 | RShift =>
  refine x2a5 (optN_ok h :) fun a n ha hb hu h1 h2=>?_
  refine x2a2 (bitsOf_ok ha hx :) fun m t q2q im=>?_;subst q2q
  refine x1a1 (natOf_ok hb hy :) fun t' q1q=>?_;subst q1q
  rw [dropL_eq] at hu
  have q:=back hu (im.drop (m:=m) n)
  have e:((m / 2 ^ n:Nat):Int) = (m:Int).fdiv (2 ^ ((n:Int)).toNat):=by
   rw [← fdiv_nat];simp
  induction ip using Bool.casesOn
  ·exact rshift_int (by lia) (e▸q)
  ·exact irshift_int (by lia) (e▸q)
 | FloorDiv =>
  refine x2a5 (optN_ok h :) fun a n ha hb hu h1 h2=>?_
  refine x2a2 (bitsOf_ok ha hx :) fun m t q2q im=>?_;subst q2q
  refine x1a1 (pw2_ok hb hy :) fun t' q1q=>?_;subst q1q
  rw [dropL_eq] at hu
  have q:=back hu (im.drop (m:=m) n)
  rw [← fdiv_nat] at q
  have hp:=PyProof.noPylong_small (x:=(m:Int)) (y:=((2 ^ n:Nat):Int)) (by rw [Int.natAbs_natCast];exact Nat.lt_of_le_of_lt (pow_le_24 h2) (by decide))
  have hne:((2 ^ n:Nat):Int)≠0:=by have:=Nat.two_pow_pos n;lia
  induction ip using Bool.casesOn
  ·exact floordiv_int hne q (.inl hp)
  ·exact ifloordiv_int hne q (.inl hp)
 | Mod =>
  refine x2a5 (optN_ok h :) fun a n ha hb hu h1 h2=>?_
  refine x2a2 (bitsOf_ok ha hx :) fun m t q2q im=>?_;subst q2q
  refine x1a1 (pw2_ok hb hy :) fun t' q1q=>?_;subst q1q
  rw [takeL_eq] at hu
  have q:=back hu (im.take n)
  rw [← fmod_nat] at q
  have hne:((2 ^ n:Nat):Int)≠0:=by have:=Nat.two_pow_pos n;lia
  induction ip using Bool.casesOn
  ·exact mod_int' hne q
  ·exact imod_int hne q
 | _=>exact nS' h
end
end Mine
end
section
namespace Mine
open PySem.SeqAt
section
variable {C:SC} {Fm:Fm} {ρ:Va} {σ:St} {s:Shared} {A:Around} {Q:Value→Shared→Prop} {E:Value→Shared→Prop}
theorem addL_ok {l b:Addr} {vs ws:List Value} (hl:s.heap.IsList l vs.toArray) (hb:s.heap.IsList b ws.toArray) (hsz:(vs++ws).length≤sizeLine)
  (h:Q (.ref s.heap.objs.size) { s with heap:=s.heap.push { cls:=.type "list",data:=.seq (vs++ws).toArray } }):wpAny (model PW C.w) A (binaryOp .Add (.ref l) (.ref b)) Q E s:=by
 obtain ⟨⟨cls,dd,data,sl⟩,ho,hc,n,hd⟩:=id hl
 obtain ⟨⟨cls2,dd2,data2,sl2⟩,ho2,hc2,n2,hd2⟩:=id hb
 simp only at hc hd hc2 hd2
 subst hc hd hc2 hd2
 have e:vs.toArray++ws.toArray = (vs++ws).toArray:=by simp
 refine concat_meets ⟨_,ho,rfl⟩ ⟨_,ho2,rfl⟩ noFill_list_add seq_list_add PySem.F.slot_list_add PySem.F.entry_list_add (PySem.F.args_list_add_2 _ _) (list_addW l b vs.toArray ws.toArray n n2 dd dd2 sl sl2 (by rw [List.length_append] at hsz;simpa using hsz)) ⟨ho,ho2,?_⟩
 rw [e]
 exact h
theorem mulL_ok {l:Addr} {vs:List Value} {x:Int} {u:Tok} (hl:s.heap.IsList l vs.toArray) (hlo:-(2 ^ 63:Int)≤x) (hhi:x < 2 ^ 63) (hsz:vs.length * x.toNat≤2 ^ 24)
  (h:Q (.ref s.heap.objs.size) { s with heap:=s.heap.push { cls:=.type "list",data:=.seq (List.replicate x.toNat vs).flatten.toArray } }):wpAny (model PW C.w) A (binaryOp .Mult (.ref l) (.int x u)) Q E s:=by
 obtain ⟨⟨cls,d,data,sl⟩,ho,hcl,k,hd⟩:=id hl
 simp only at hcl hd
 subst hcl hd
 have hsz':vs.toArray.size * x.toNat≤2 ^ 24:=by simpa using hsz
 refine wpAny_binaryOp_repeat_ref (T:="list") (U:="int") (by decide) ⟨_,ho,rfl⟩ (fun s'=>typeIs_int s' x u) noFill_list_mul F.fills_int_mul F.slot_int_rmul repeat_list F.slot_int_index.lookup
  (call_meets F.slot_int_rmul (typeIs_int s x u) F.entry_int_rmul (F.args_int_rmul_2 _ _) (lm_int_rmul_list_any x u l vs.toArray k d sl)
   ⟨ho,rfl,⟨_,ho,rfl⟩,call_meets F.slot_list_mul ⟨_,ho,rfl⟩ F.entry_list_mul (F.args_list_mul_2 _ _)
    (lm_list_mul_any l vs.toArray k d sl x u (by simp [Builtin.List.listFitsIndex];lia) (by lia) (by simp [Builtin.List.listTooLong,sizeLine];lia))
    ⟨ho,?_⟩⟩)
 rw [listMul_foldl_if]
 exact h
theorem repL_eq (l:List V):∀ n,repL l n = (List.replicate n l).flatten
 | 0=>rfl
 | n + 1=>by
  show app l (repL l n) = _
  rw [app_eq,repL_eq l n,List.replicate_succ,List.flatten_cons]
theorem IsVs.rep {h:Heap} {l:List V} {vs:List Value} (x:IsVs ρ h l vs):∀ n,IsVs ρ h (List.replicate n l).flatten (List.replicate n vs).flatten
 | 0=>.nil
 | n + 1=>by
  rw [List.replicate_succ,List.replicate_succ,List.flatten_cons,List.flatten_cons]
  exact x.append (IsVs.rep x n)
theorem natI_eq (k:Int):natI k = k.toNat:=by induction k using Int.casesOn <;> rfl
theorem newL_at {κ:KX} {l:List V} {vs:List Value} (h:newL κ σ l = true) (R:Rel C Fm ρ σ s) (hl:IsVs ρ s.heap l vs) (G:GoQ C Fm ρ s.heap κ Q) :
  vs.length≤1000000∧Q (.ref s.heap.objs.size) { s with heap:=s.heap.push { cls:=.type "list",data:=.seq vs.toArray } }:=by
 refine x0a2 (ifB_ok h :) fun h1 h2=>?_
 have hf:=fitsN_ok h1
 rw [len_eq,hl.length] at hf
 have N:=R.push (o:=.list l) (ob:={ cls:=.type "list",data:=.seq vs.toArray }) rfl s.toks ⟨vs,⟨_,Heap.get?_push_size _ rfl⟩,hl.mono (le_more _ _) (TK.keeps (keep_push _ _))⟩
 exact ⟨hf,G _ _ _ _ _ h2 N R.nxt_loc⟩
theorem newT_at {κ:KX} {l:List V} {vs:List Value} (h:newT κ σ l = true) (R:Rel C Fm ρ σ s) (hl:IsVs ρ s.heap l vs) (G:GoQ C Fm ρ s.heap κ Q) :
  vs.length≤1000000∧Q (.ref s.heap.objs.size) { s with heap:=s.heap.push { cls:=.type "tuple",data:=.seq vs.toArray } }:=by
 refine x0a2 (ifB_ok h :) fun h1 h2=>?_
 have hf:=fitsN_ok h1
 rw [len_eq,hl.length] at hf
 have R':=R.grow (s':={ s with heap:=s.heap.push { cls:=.type "tuple",data:=.seq vs.toArray } }) (keep_push _ _) rfl rfl
 exact ⟨hf,G _ _ _ _ _ h2 ⟨Va.le.refl _,TK.keeps (keep_push _ _),R'⟩ (.tup (IsTup.new _ _) (hl.mono (Va.le.refl _) (TK.keeps (keep_push _ _))))⟩
theorem binInt_ok {ip:Bool} {o:Operator} {i:Int} {t:Tok} {y:V} {w:Value} {κ:KX} (h:binInt o i y σ κ = true) (R:Rel C Fm ρ σ s) (hy:IsV ρ s.heap y w) (G:GoQ C Fm ρ s.heap κ Q) :
  wpAny (model PW C.w) A (opSem ip o (.int i t) w) Q E s:=by
 have bits:retO κ σ (bvOp o (.int i) y) = true→wpAny (model PW C.w) A (opSem ip o (.int i t) w) Q E s:=fun hb=>by
  refine x1a2 (retO_ok hb :) fun u hu hκ=>?_
  exact bvOp_ok hu (.int (t:=t)) hy fun e hb=>G _ _ _ _ _ hκ (.tok R _) (e▸.bv hb)
 induction hy using IsV.casesOn with
 | @int j u =>
  have h':(match intOp o i j with | some k=>κ (.int k) σ | none=>false) = true:=h
  induction e:intOp o i j using Option.casesOn with
  | none=>rw [e] at h';exact ft' h'
  | some k=>rw [e] at h';exact intOp_ok e (G _ _ _ _ _ h' (.tok R _) .int)
 | _=>exact bits h
theorem str_add (x y:Str):(⟨x.cps++y.cps⟩:Str) = x++y:=rfl
theorem mAdd {α:Type} {f d a:α} {o:Operator} (h:(match o with | .Add=>f | _=>d) = a) (n:d≠a):o = .Add∧f = a:=by
 induction o using Operator.casesOn with
 | Add=>exact ⟨rfl,h⟩
 | _=>exact absurd h n
theorem addL_at {xs:List V} {b:V} {κ:KX} (h:addLoc (.list xs) b σ κ = true):∃ k ys,b = .loc k∧σ.at k = some (.list ys)∧newL κ σ (app xs ys) = true:=by
 refine x1a2 (mLoc h ft :) fun k e1 h=>?_
 have h:addLL (.list xs) (σ.at k) (newL κ σ) = true:=h
 refine x1a2 (mSome h ft :) fun q e2 h=>?_
 refine x1a2 (mList h ft :) fun ys e3 h=>?_
 exact ⟨k,ys,e1,e3▸e2,h⟩
theorem addO_at {o:O} {b:V} {κ:KX} (h:addLoc o b σ κ = true):∃ xs,o = .list xs∧addLoc (.list xs) b σ κ = true:=by
 refine x1a2 (mLoc h ft :) fun k _ h'=>?_
 refine x1a2 (mList (show addLL o (σ.at k) (newL κ σ) = true from h') ft :) fun xs e _=>?_
 exact ⟨xs,e,e▸h⟩
theorem binLoc_at {o:Operator} {ob:Option O} {b:V} {κ:KX} (h:binLoc o ob b σ κ = true):∃ xs,ob = some (.list xs)∧((o = .Add∧∃ k ys,b = .loc k∧σ.at k = some (.list ys)∧newL κ σ (app xs ys) = true)∨(o = .Mult∧∃ k,b = .int k∧mulL (.list xs) k (newL κ σ) = true)):=by
 refine x1a2 (mSome h ft :) fun q e h=>?_
 rw [e]
 induction o using Operator.casesOn with
 | Add =>
  refine x1a2 (addO_at h :) fun xs e h=>?_
  exact ⟨xs,congrArg _ e,.inl ⟨rfl,addL_at h⟩⟩
 | Mult =>
  refine x1a2 (mInt h ft :) fun k e1 h=>?_
  refine x1a2 (mList h ft :) fun xs e2 h'=>?_
  rw [e2] at h
  exact ⟨xs,congrArg _ e2,.inr ⟨rfl,k,e1,h⟩⟩
 | _=>exact ft' h
set_option tactic.hygienic true in
theorem binStr_ok {o:Operator} {a:Str} {t:Tok} {y:V} {w:Value} {κ:KX} (h:binStr o a y σ κ = true) (R:Rel C Fm ρ σ s) (hy:IsV ρ s.heap y w) (G:GoQ C Fm ρ s.heap κ Q) :
  wpAny (model PW C.w) A (binaryOp o (.str a t) w) Q E s:=by
 refine x1a2 (mStr h ft :) fun b e h=>?_
 refine x0a2 (mAdd h ft :) fun eo h=>?_
 rw [e] at hy
 refine x1a1 (hy.inv :) fun u e=>?_
 rw [e,eo]
 refine x0a2 (ifB_ok (b:=fitsN (a.cps++b.cps).size) (x:=κ (.str ⟨a.cps++b.cps⟩) σ) h :) fun h1 h2=>?_
 refine P.add_str ?_
 split
 ·rename_i q
  have e1:(⟨a.cps++b.cps⟩:Str) = b:=by
   rw [show a.cps = #[] from Array.eq_empty_of_size_eq_zero (show a.length = 0 by simpa using q)]
   cases b;simp
  rw [e1] at h2
  exact G _ _ _ _ _ h2 (.here R) .str
 ·split
  ·rename_i q
   have e2:(⟨a.cps++b.cps⟩:Str) = a:=by
    rw [show b.cps = #[] from Array.eq_empty_of_size_eq_zero (show b.length = 0 by simpa using q)]
    cases a;simp
   rw [e2] at h2
   exact G _ _ _ _ _ h2 (.here R) .str
  ·exact ⟨fits_line (fitsN_ok h1),G _ _ _ _ _ h2 (.tok R _) .str⟩
theorem binTup_ok {o:Operator} {l:List V} {a:Addr} {vs:List Value} {y:V} {w:Value} {κ:KX} (h:binTup o l y σ κ = true) (R:Rel C Fm ρ σ s) (ht:IsTup s.heap a vs.toArray) (hs:IsVs ρ s.heap l vs) (hy:IsV ρ s.heap y w) (G:GoQ C Fm ρ s.heap κ Q) :
  wpAny (model PW C.w) A (binaryOp o (.ref a) w) Q E s:=by
 refine x1a2 (mTup h ft :) fun m e h=>?_
 refine x0a2 (mAdd h ft :) fun eo h'=>?_
 rw [e] at hy
 refine x2a3 (hy.inv :) fun b ws e ht' hs'=>?_
 rw [e,eo]
 rw [app_eq] at h'
 refine x0a2 (newT_at h' R (hs.append hs') G :) fun h1 h2=>?_
 refine x0a2 (ifB_ok h' :) fun _ h4=>?_
 obtain ⟨⟨cls,dd,data,sl⟩,ho,hc,n,hd⟩:=id ht
 obtain ⟨⟨cls2,dd2,data2,sl2⟩,ho2,hc2,n2,hd2⟩:=id ht'
 simp only at hc hd hc2 hd2
 rw [hc,hd] at ho
 rw [hc2,hd2] at ho2
 by_cases hv:vs = []
 ·refine concat_meets ⟨_,ho,rfl⟩ ⟨_,ho2,rfl⟩ noFill_tuple_add seq_tuple_add PySem.F.slot_tuple_add PySem.F.entry_tuple_add (PySem.F.args_tuple_add_2 _ _)
   (tuple_addW0 a b vs.toArray ws.toArray n n2 dd dd2 sl sl2 (by simp [hv])) ⟨ho,ho2,?_⟩
  rw [hv] at hs
  cases hs
  exact G _ _ _ _ _ h4 (.here R) (.tup ht' hs')
 ·by_cases hw:ws = []
  ·refine concat_meets ⟨_,ho,rfl⟩ ⟨_,ho2,rfl⟩ noFill_tuple_add seq_tuple_add PySem.F.slot_tuple_add PySem.F.entry_tuple_add (PySem.F.args_tuple_add_2 _ _)
    (tuple_addW1 a b vs.toArray ws.toArray n n2 dd dd2 sl sl2 (by simpa using hv) (by simp [hw])) ⟨ho,ho2,?_⟩
   rw [hw] at hs'
   cases hs'
   rw [List.append_nil] at h4
   exact G _ _ _ _ _ h4 (.here R) (.tup ht hs)
  ·refine concat_meets ⟨_,ho,rfl⟩ ⟨_,ho2,rfl⟩ noFill_tuple_add seq_tuple_add PySem.F.slot_tuple_add PySem.F.entry_tuple_add (PySem.F.args_tuple_add_2 _ _)
    (tuple_addW2 a b vs.toArray ws.toArray n n2 dd dd2 sl sl2 (by simpa using hv) (by simpa using hw) (by rw [List.length_append] at h1;rw [List.size_toArray,List.size_toArray];exact fits_line h1)) ⟨ho,ho2,?_⟩
   rw [show vs.toArray++ws.toArray = (vs++ws).toArray by simp]
   exact h2
theorem binL_ok {o:Operator} {n:Nat} {a:Addr} {y:V} {w:Value} {κ:KX} (h:binLoc o (σ.at n) y σ κ = true) (R:Rel C Fm ρ σ s) (hn:ρ.adr[n]? = some a) (hy:IsV ρ s.heap y w) (G:GoQ C Fm ρ s.heap κ Q) :
  wpAny (model PW C.w) A (binaryOp o (.ref a) w) Q E s:=by
 refine x1a2 (binLoc_at h :) fun xs eo h=>?_
 refine x1a2 (R.thing hn eo :) fun vs hl0 hvs=>?_
 rcases h with ⟨e,k,ys,ey,ek,h⟩ | ⟨e,k,ey,h⟩
 ·rw [ey] at hy
  refine x1a2 (hy.inv :) fun b ew hk=>?_
  refine x1a2 (R.thing hk ek :) fun ws hl0' hws=>?_
  rw [app_eq] at h
  refine x0a2 (newL_at h R (hvs.append hws) G :) fun h1 h2=>?_
  rw [e,ew]
  exact addL_ok hl0.isList hl0'.isList (fits_line h1) h2
 ·rw [ey] at hy
  refine x1a1 (hy.inv :) fun t ew=>?_
  have h:ifB (sm 1000000 k) (ifB (fitsN (len xs * natI k)) (newL κ σ (repL xs (natI k))) false) false = true:=h
  refine x0a2 (ifB_ok h :) fun h0 h=>?_
  refine x0a2 (ifB_ok h :) fun h1 h=>?_
  rw [repL_eq,natI_eq] at h
  refine x0a2 (newL_at h R (hvs.rep _) G :) fun _ h2=>?_
  have hk:=sm_ok h0
  have hf:=fitsN_ok h1
  rw [len_eq,hvs.length,natI_eq] at hf
  have e63:(2:Int) ^ 63 = 9223372036854775808:=by decide
  have e24:(2:Nat) ^ 24 = 16777216:=by decide
  rw [e,ew]
  exact mulL_ok hl0.isList (by lia) (by lia) (by lia) h2
theorem binV_ok {o:Operator} {x y:V} {v w:Value} {κ:KX} (h:binV o x y σ κ = true) (R:Rel C Fm ρ σ s) (hx:IsV ρ s.heap x v) (hy:IsV ρ s.heap y w) (G:GoQ C Fm ρ s.heap κ Q) :
  wpAny (model PW C.w) A (binaryOp o v w) Q E s:=by
 induction hx using IsV.casesOn with
 | @int i t=>exact binInt_ok (ip:=false) h R hy G
 | @bv l m t hb =>
  refine x1a2 (retO_ok (x:=bvOp o (.bv l) y) h :) fun u hu hκ=>?_
  exact bvOp_ok (ip:=false) hu (.bv (t:=t) hb) hy fun e hb=>G _ _ _ _ _ hκ (.tok R _) (e▸.bv hb)
 | str=>exact binStr_ok h R hy G
 | tup ht hs=>exact binTup_ok h R ht hs hy G
 | loc hn=>exact binL_ok h R hn hy G
 | _=>exact ft' h
end
end Mine
end
section
namespace Mine
section
variable {C:SC} {T:Tk} {F:Fm} {ρ:Va} {σ:St} {s:Shared} {A:Around} {env:Env} {ks:Kd} {v:Ve} {Q E:Value→Shared→Prop}
theorem binop_ok {cx:PySem.Expr→Mine.C} {r:Rc} (hc:WCx C ks r cx) {o:Operator} {a b:PySem.Expr} {p:Pos}:WC C ks r (.BinOp a o b p) (cBin cx o a b):=by
 refine mkC_ok (fun _ _=>rfl) fun v σ κ ε h A F env ρ s Q E H R GQ GE=>?_
 refine wpAny_BinOp ((hc.ok a).x v σ _ ε h A F env ρ s _ E H R ?_ GE)
 intro ρ' σ' s' u vv hu N hv
 refine (hc.ok b).x v σ' _ ε hu A F env ρ' s' _ E (H.mono N.pre) N.rel ?_ (GE.next N)
 intro ρ'' σ'' s'' y w hy N' hw
 exact binV_ok hy N'.rel (hv.mono N'.pre N'.tk) hw (GQ.next (N.trans N'))
theorem handed {ρ:Va} {h:Heap} {u:V} {v:Value} (hv:IsV ρ h u v):handedIn v = true:=by
 induction hv using IsV.casesOn with
 | @bi b=>cases b <;> decide +kernel
 | @opq i v e o =>
  rcases o with rfl | ⟨a,rfl⟩ <;> rfl
 | _=>rfl
theorem lookIn_ns {o:Obj} {es:Array DictEntry} {n:Nat} {mm:Str→Option Value} (hd:o.data = .dict es n) (hk:StrKeys es) (hm:∀ y,nsFind es y = mm y) (x:Str):lookIn x o = some (mm x):=by
 unfold lookIn
 rw [hd]
 dsimp only
 rw [← hm x]
 unfold nsFind findBy
 rw [← Array.find?_toList]
 induction q:List.find? (fun e=>e.key.isStr x) es.toList using Option.casesOn with
 | some e=>rfl
 | none =>
  have:es.toList.any (·.refKey) = false:=by
   rw [List.any_eq_false];intro e he;refine x2a1 (hk e (Array.mem_toList_iff.mp he) :) fun n t h=>?_;simp [DictEntry.refKey,h]
  simp [this]
theorem plainA_ok {c a:Nat} (h:plainA T c a = true):∃ cl,T.tx.cls.get c = some cl∧hasN cl.attrs a = true:=by
 unfold plainA at h
 induction e:T.tx.cls.get c using Option.casesOn with
 | none=>rw [e] at h;exact ft' h
 | some cl=>rw [e] at h;exact ⟨cl,rfl,h⟩
structure Thing (C:SC) (ρ:Va) (h:Heap) (σ:St) (a:Addr) (c:Nat) (d:Nat) (m:List (Nat×V)) (ox od:Obj) (dx:Addr) (es:Array DictEntry) (n:Nat) (mm:Str→Option Value):Prop where
 at_:InstAt h a ox c (some od)
 dxe:ox.dict = some dx
 da:ρ.adr[d]? = some dx
 led:σ.at d = some (.attrs m)
 here:h.get? dx = some od
 cls:od.cls = .type "dict"
 data:od.data = .dict es n
 size:es.size≤m.length
 keys:StrKeys es
 ns:∀ y,nsFind es y = mm y
 is:NsIs ρ h m mm
theorem Rel.inst (R:Rel C F ρ σ s) {n:Nat} {a:Addr} (ha:ρ.adr[n]? = some a) {c d:Nat} (e:σ.at n = some (.inst c d)) {m:List (Nat×V)} (e':σ.at d = some (.attrs m)) :
  ∃ ox od dx es k mm,Thing C ρ s.heap σ a c d m ox od dx es k mm:=by
 refine x2a5 (R.thing ha e :) fun ox dx hd ho hc hn hdx=>?_
 refine x4a7 (R.thing hd e' :) fun od es k mm h1 h2 h3 h4 h5 h6 h7=>?_
 exact ⟨ox,od,dx,es,k,mm,⟨ho,hc,hn,by rw [hdx];exact h1⟩,hdx,hd,e',h1,h2,h3,h4,h5,h6,h7⟩
theorem notExc_ok {c:Nat} {cl:Cl} (h:notExc T c = true) (e:T.tx.cls.get c = some cl):cl.exc = false:=by
 unfold notExc at h
 rw [e] at h
 induction q:cl.exc using Bool.casesOn with
 | false=>rfl
 | true=>dsimp only at h;rw [q] at h;exact ft' h
theorem Rel.exc (R:Rel C F ρ σ s) {n:Nat} {a:Addr} (ha:ρ.adr[n]? = some a) {c d:Nat} (e:σ.at n = some (.exc c d)) {m:List (Nat×V)} (e':σ.at d = some (.attrs m)) :
  ∃ ox od dx es k mm,Thing C ρ s.heap σ a c d m ox od dx es k mm:=by
 refine x3a6 (R.thing ha e :) fun ox dx vs hd ho hc hn hdx _=>?_
 refine x4a7 (R.thing hd e' :) fun od es k mm h1 h2 h3 h4 h5 h6 h7=>?_
 exact ⟨ox,od,dx,es,k,mm,⟨ho,hc,by unfold notCls;rw [hn],by rw [hdx];exact h1⟩,hdx,hd,e',h1,h2,h3,h4,h5,h6,h7⟩
theorem attrOf_at {u:V} {a:Nat} {w:V} (h:attrOf T u a σ = some w):∃ n c d cl m,u = .loc n∧σ.at n = some (.inst c d)∧T.tx.cls.get c = some cl∧hasN cl.attrs a = true∧σ.at d = some (.attrs m)∧lk m a = some w∧cl.exc = false:=by
 unfold attrOf at h
 induction u using V.casesOn with
 | loc n =>
  dsimp only at h
  induction e:σ.at n using Option.casesOn with
  | none=>rw [e] at h;exact nS' h
  | some o =>
   rw [e] at h
   induction o using O.casesOn with
   | inst c d =>
    dsimp only at h
    induction ep':ifB (notExc T c) (plainA T c a) false using Bool.casesOn with
    | false=>rw [ep'] at h;exact nS' h
    | true =>
     rw [ep'] at h
     refine x0a2 (ifB_ok ep' :) fun hne ep=>?_
     refine x1a2 (plainA_ok ep :) fun cl h1 h2=>?_
     dsimp only at h
     unfold attrD at h
     induction ed:σ.at d using Option.casesOn with
     | none=>rw [ed] at h;exact nS' h
     | some od =>
      rw [ed] at h
      induction od using O.casesOn with
      | attrs m=>exact ⟨n,c,d,cl,m,rfl,e,h1,h2,ed,h,notExc_ok hne h1⟩
      | _=>exact nS' h
   | _=>exact nS' h
 | _=>exact nS' h
theorem noCall_ok {r:Rc} {e o:PySem.Expr} {c:Mine.C} (h:(∀ x env y,attributeBase o x env y = y)→WC C ks r e c):WC C ks r e (noCall o c):=by
 induction o using Expr.casesOn with
 | Call=>exact noC_ok
 | _=>exact h fun _ _ _=>rfl
theorem getAttr_ok {u w:V} {vv:Value} {x:Str} {ex:Bool} (G:Gr C T) (h:attrOf T u (key x) σ = some w) (R:Rel C F ρ σ s) (hv:IsV ρ s.heap u vv)
  (hQ:∀ ww t,IsV ρ s.heap w ww→Q ww { s with toks:=t }):wpAny (model PW C.w) A (getAttr vv x ex) Q E s:=by
 refine x5a7 (attrOf_at h :) fun n c d cl m q5q e1 e2 e3 e4 e5 e6=>?_;subst q5q
 refine x1a2 (hv.inv :) fun a evq ha=>?_;subst evq
 refine x6a1 (R.inst ha e1 e4 :) fun ox od dx es k mm I=>?_
 refine x1a2 (I.is.some e5 :) fun vv hm hi=>?_
 have K:=G.cls c cl e2
 refine get_value (G.Xs R) I.at_ (K.get e6) (findObj_own K.dict (K.plain x e3) rfl (by rw [lookIn_ns I.data I.keys I.ns x,hm])) (handed hi) (hQ _ _ hi)
theorem attr_ok (G:Gr C T) {cx:PySem.Expr→Mine.C} {r:Rc} (hc:WCx C ks r cx) {o:PySem.Expr} {x:Str} {p:Pos}:WC C ks r (.Attribute o x p) (cAttr T cx o (key x)):=by
 refine noCall_ok fun hs=>?_
 refine mkC_ok (fun _ _=>rfl) fun v σ κ ε h A F env ρ s Q E H R GQ GE=>?_
 rw [arm_eval_Attribute,hs]
 refine wpAny_bind ((hc.ok o).x v σ _ ε h A F env ρ s _ E H R ?_ GE)
 intro ρ' σ' s' u vv hu N hv
 refine x1a2 (retO_ok hu :) fun w hw hκ=>?_
 refine wpAny_bind (wpAny_standAt (wpAny_bind (wpAny_holding (getAttr_ok G hw N.rel hv fun ww t hi=>?_))))
 exact wpAny_bind (wpAny_letTemporaryGo (wpAny_pure (GQ _ _ _ _ _ hκ (N.trans (.tok N.rel t)) hi)))
end
end Mine
end
section
namespace Mine
theorem IsVs.take {ρ:Va} {h:Heap}:∀ {xs:List V} {vs:List Value} (n:Nat),IsVs ρ h xs vs→IsVs ρ h (xs.take n) (vs.take n):=by
 intro xs vs n q
 induction n generalizing xs vs with
 | zero=>exact .nil
 | succ n ih=>induction q using IsVs.casesOn with
  | nil=>exact .nil
  | cons a r=>exact .cons a (ih r)
theorem IsVs.drop {ρ:Va} {h:Heap}:∀ {xs:List V} {vs:List Value} (n:Nat),IsVs ρ h xs vs→IsVs ρ h (xs.drop n) (vs.drop n):=by
 intro xs vs n q
 induction n generalizing xs vs with
 | zero=>exact q
 | succ n ih=>induction q using IsVs.casesOn with
  | nil=>exact .nil
  | cons a r=>exact ih r
set_option tactic.hygienic true in
theorem idxOf_ok {k:Int} {n j:Nat} (h:idxOf n k = some j) (hj:j < n):seqIndex? k n = some j:=by
 unfold idxOf at h
 unfold seqIndex?
 induction k using Int.casesOn with
 | ofNat k =>
  obtain rfl:k = j:=Option.some.inj h
  have:¬ ((Int.ofNat k) < 0):=by simp
  simp only [this,if_false]
  rw [if_pos (by simp;lia)];simp
 | negSucc k =>
  dsimp only at h
  (revert h;refine mB (fun _ h=>?_) fun _ h=>?_)
  ·rename_i q
   (refine jS h fun j=>?_;clear h;subst j)
   have q':=Nat.le_of_ble_eq_true q
   have:Int.negSucc k < 0:=Int.negSucc_lt_zero k
   simp only [this,if_true]
   rw [if_pos (by simp only [Bool.and_eq_true,decide_eq_true_eq];lia)]
   congr 1;lia
  ·exact nS' h
set_option tactic.hygienic true in
theorem nthI_ok {l:List V} {k:Int} {x:V} (h:nthI l k = some x):∃ j,idxOf l.length k = some j∧l[j]? = some x∧-1000000≤k∧k≤1000000:=by
 unfold nthI at h
 (revert h;refine mB (fun _ h=>?_) fun _ h=>?_)
 ·rename_i q
  rw [len_eq] at h
  split at h
  ·rename_i n e
   rw [nth_eq] at h
   have:=sm_ok q
   exact ⟨n,e,h,by lia,by lia⟩
  ·exact nS' h
 ·exact nS' h
noncomputable def clampP (n:Nat) (d:Nat) (x:Option Int):Nat:=match x with | none=>d | some i=>clampI n i
theorem sliceL_eq (l:List V) (a b:Option Int):sliceL l a b = (l.take (clampP l.length l.length b)).drop (clampP l.length 0 a):=by
 unfold sliceL clampP
 rw [dropL_eq,takeL_eq,len_eq]
 try (induction a using Option.casesOn <;> induction b using Option.casesOn <;> rfl)
set_option tactic.hygienic true in
theorem clampI_le (n:Nat) (i:Int):clampI n i≤n:=by
 unfold clampI
 split
 ·split
  ·rename_i q;exact Nat.le_of_ble_eq_true q
  ·exact Nat.le_refl _
 ·split <;> lia
theorem clampP_le {n d:Nat} (hd:d≤n) (x:Option Int):clampP n d x≤n:=by
 induction x using Option.casesOn with
 | none=>exact hd
 | some i=>exact clampI_le n i
theorem clampI_int (n:Nat) (i:Int):(clampI n i:Int) = max 0 (min (if i < 0 then i + n else i) n):=by
 unfold clampI
 induction i using Int.casesOn with
 | ofNat k =>
  have:¬ ((Int.ofNat k) < 0):=by simp
  rw [if_neg this]
  dsimp only
  induction q:Nat.ble k n using Bool.casesOn with
  | true=>show (k:Int) = max 0 (min (k:Int) n);rw [Int.min_eq_left (Int.ofNat_le.mpr (Nat.le_of_ble_eq_true q)),Int.max_eq_right (Int.natCast_nonneg k)]
  | false =>
   have:¬ k≤n:=fun z=>by rw [Nat.ble_eq_true_of_le z] at q;exact tf' q
   show (n:Int) = max 0 (min (k:Int) n)
   rw [Int.min_eq_right (Int.ofNat_le.mpr (Nat.le_of_not_le this)),Int.max_eq_right (Int.natCast_nonneg n)]
 | negSucc k =>
  have:Int.negSucc k < 0:=Int.negSucc_lt_zero k
  rw [if_pos this]
  dsimp only
  induction q:Nat.ble (k + 1) n using Bool.casesOn with
  | true =>
   have:=Nat.le_of_ble_eq_true q
   have e:Int.negSucc k + (n:Int) = ((n - (k + 1):Nat):Int):=by lia
   rw [e,Int.min_eq_left (Int.ofNat_le.mpr (Nat.sub_le ..)),Int.max_eq_right (Int.natCast_nonneg _)]
  | false =>
   have:¬ k + 1≤n:=fun z=>by rw [Nat.ble_eq_true_of_le z] at q;exact tf' q
   simp only [];lia
theorem bounds_ok (n:Nat) (lo hi:Option Int):sliceBounds lo hi none n = ((clampP n 0 lo:Int),(clampP n n hi:Int),1):=by
 unfold sliceBounds clampP
 have h1:((none:Option Int).getD 1 > 0):=by decide
 simp only [h1,if_true,Option.getD_none]
 induction lo using Option.casesOn <;> induction hi using Option.casesOn <;> simp [clampI_int]
theorem adjust_ok (n:Nat) (lo hi:Option Int):Builtin.Slice.sliceAdjust lo hi 1 (n:Int) = ((clampP n 0 lo:Int),(clampP n n hi:Int)):=by
 unfold Builtin.Slice.sliceAdjust clampP
 have h1:¬ ((1:Int) < 0):=by decide
 simp only [h1,if_false]
 induction lo using Option.casesOn <;> induction hi using Option.casesOn <;> simp only [clampI_int,Prod.mk.injEq,Int.natCast_zero,true_and,and_true] <;> (try constructor) <;> refine ifL (fun _=>?_) fun _=>?_ <;> lia
theorem pick_ok (items:Array Value) (lo hi:Option Int):slicePick items lo hi none = ((items.toList.take (clampP items.size items.size hi)).drop (clampP items.size 0 lo)).toArray:=by
 unfold slicePick
 rw [bounds_ok]
 dsimp only
 have h1:=clampP_le (Nat.zero_le items.size) lo
 have h2:=clampP_le (Nat.le_refl items.size) hi
 generalize clampP items.size 0 lo = a at *
 generalize clampP items.size items.size hi = b at *
 unfold sliceRange
 have h3:((1:Int) > 0):=by decide
 simp only [h3,if_true]
 have:(if (a:Int) < b then ((b:Int) - a + 1 - 1) / 1 else 0).toNat = b - a:=by split <;> lia
 rw [this]
 have e:(fun (k:Nat)=>((a:Int) + 1 * (k:Int)).toNat) = (a + ·):=by funext k;show _ = a + k;rw [Int.one_mul,← Int.natCast_add,Int.toNat_natCast]
 rw [e,pick_run,List.drop_take]
section
variable {C:SC} {T:Tk} {F:Fm} {ρ:Va} {σ:St} {s:Shared} {A:Around} {env:Env} {ks:Kd} {v:Ve} {Q E:Value→Shared→Prop}
theorem subTail {value slice:PySem.Expr} {o i:Value} {K id:String} (hT:s.TypeIs o K) (hl:typeLookup (.type K) "__getitem__" = pure (some (.builtin id))) (h:wpAny (model PW C.w) A (getItem o i) Q E s) :
  wpAny (model PW C.w) A (subscriptTail value slice o i) Q E s:=by
 unfold subscriptTail
 refine wpAny_bind ?_
 rw [getitemInPython_of_ne hT.not_modules]
 refine wpAny_bind (wpAny_specialOf hT hl ?_)
 have fin:wpAny (model PW C.w) A (subscripted slice false o i) (fun r s₃=>wpAny (model PW C.w) A (letTemporaryGo value o r >>= fun _=>pure r) Q E s₃) E s:=by
  have g:wpAny (model PW C.w) A (getItem o i) (fun r s₃=>wpAny (model PW C.w) A (letTemporaryGo value o r >>= fun _=>pure r) Q E s₃) E s :=
   wpAny_mono h (fun r s₃ h₃=>wpAny_bind (wpAny_letTemporaryGo (wpAny_pure h₃))) fun _ _ x=>x
  induction slice using Expr.casesOn with
  | Slice lo hi st p=>induction st using Option.casesOn <;> exact wpAny_operating g
  | _=>exact wpAny_operating g
 first
  | exact wpAny_pure (wpAny_bind fin)
  | exact wpAny_bind (wpAny_pure (wpAny_bind fin))
  | exact wpAny_bind fin
set_option tactic.hygienic true in
theorem getItem_listAt {l:Addr} {vs:List Value} {k:Int} {t:Tok} {j:Nat} {x:Value} (hl:s.heap.IsList l vs.toArray) (hj:idxOf vs.length k = some j) (hx:vs[j]? = some x) (h1:-1000000≤k) (h2:k≤1000000) (h:Q x s) :
  wpAny (model PW C.w) A (getItem (.ref l) (.int k t)) Q E s:=by
 have hjl:=(List.getElem?_eq_some_iff.mp hx).1
 have e63:(2:Int) ^ 63 = 9223372036854775808:=by decide
 unfold idxOf at hj
 induction k using Int.casesOn with
 | ofNat k =>
  (refine jS hj fun j=>?_;clear hj;subst j)
  exact wpAny_getItem_list hl (by simp) (by lia) (by simpa using hx) h
 | negSucc k =>
  dsimp only at hj
  (revert hj;refine mB (fun _ hj=>?_) fun _ hj=>?_)
  ·rename_i q
   have q':=Nat.le_of_ble_eq_true q
   (refine jS hj fun j=>?_;clear hj;subst j)
   refine wpAny_getItem_list_neg hl (by lia) (by rw [List.size_toArray];lia) (by lia) ?_ h
   have:(Int.negSucc k + (vs.toArray.size:Nat)).toNat = vs.length - (k + 1):=by rw [List.size_toArray];lia
   rw [this];simpa using hx
  ·exact nS' hj
theorem ixL_at {o:O} {i w:V} (h:ixL o i = some w):(∃ l k,o = .list l∧i = .int k∧nthI l k = some w)∨(∃ m k,o = .idict m∧i = .int k∧lkI m k = some w)∨∃ m x,o = .sdict m∧i = .str x∧lk m (key x) = some w:=by
 induction o using O.casesOn with
 | list l=>exact .inl ⟨l,(mInt h nS).imp fun _ q=>⟨rfl,q⟩⟩
 | idict m=>exact .inr (.inl ⟨m,(mInt h nS).imp fun _ q=>⟨rfl,q⟩⟩)
 | sdict m=>exact .inr (.inr ⟨m,(mStr h nS).imp fun _ q=>⟨rfl,q⟩⟩)
 | _=>exact nS' h
theorem ixV_at {u i w:V} (h:ixV u i σ = some w):(∃ l k,u = .tup l∧i = .int k∧nthI l k = some w)∨∃ n o,u = .loc n∧σ.at n = some o∧ixL o i = some w:=by
 induction u using V.casesOn with
 | tup l=>exact .inl ⟨l,(mInt h nS).imp fun _ q=>⟨rfl,q⟩⟩
 | loc n=>exact .inr ⟨n,(mSome h nS).imp fun _ q=>⟨rfl,q⟩⟩
 | _=>exact nS' h
theorem ixV_ok {u i w:V} {vo vi:Value} (h:ixV u i σ = some w) (R:Rel C F ρ σ s) (hu:IsV ρ s.heap u vo) (hi:IsV ρ s.heap i vi) (hQ:∀ ww t,IsV ρ s.heap w ww→Q ww { s with toks:=t }) :
  ∃ K id,s.TypeIs vo K∧typeLookup (.type K) "__getitem__" = pure (some (.builtin id))∧wpAny (model PW C.w) A (getItem vo vi) Q E s:=by
 have hQ0:∀ ww,IsV ρ s.heap w ww→Q ww s:=fun ww x=>hQ ww s.toks x
 rcases ixV_at h with ⟨l,k,e1,e2,h⟩ | ⟨n,o,e1,eo,h⟩
 ·rw [e1] at hu
  rw [e2] at hi
  refine x2a3 (hu.inv :) fun a vs e3 ht hs=>?_
  refine x1a1 (hi.inv :) fun t e4=>?_
  rw [e3,e4]
  refine x1a4 (nthI_ok h :) fun j h1 h2 h3 h4=>?_
  refine x1a2 (hs.get h2 :) fun y hy hw=>?_
  have hj:=(List.getElem?_eq_some_iff.mp hy).1
  have e63:(2:Int) ^ 63 = 9223372036854775808:=by decide
  refine ⟨"tuple",_,ht.typeIs,slot_tuple_getitem.lookup,PyProof.Rows.getItem_tuple (j:=j) ht (Int.le_trans (by decide) h3) (Int.lt_of_le_of_lt h4 (by decide)) ?_ (by rw [List.getElem?_toArray];exact hy) (hQ0 _ hw)⟩
  rw [List.size_toArray]
  exact idxOf_ok (hs.length▸h1) hj
 ·rw [e1] at hu
  refine x1a2 (hu.inv :) fun a e3 hn=>?_
  have io:=R.thing hn eo
  rw [e3]
  rcases ixL_at h with ⟨l,k,e1,e2,h⟩ | ⟨m,k,e1,e2,h⟩ | ⟨m,k,e1,e2,h⟩
  ·rw [e1] at io
   rw [e2] at hi
   refine x1a2 io fun vs hl0 hs=>?_;clear io
   refine x1a1 (hi.inv :) fun t e4=>?_
   refine x1a4 (nthI_ok h :) fun j h1 h2 h3 h4=>?_
   refine x1a2 (hs.get h2 :) fun y hy hw=>?_
   rw [e4]
   exact ⟨"list",_,hl0.isList.typeIs,list_getitem_lookup,getItem_listAt hl0.isList (hs.length▸h1) hy h3 h4 (hQ0 _ hw)⟩
  ·rw [e1] at io
   rw [e2] at hi
   obtain ⟨hs,kvs,d,hk⟩:=io
   refine x1a1 (hi.inv :) fun t e4=>?_
   have hk:=hk.at (x:=k)
   rw [h] at hk
   refine x1a2 hk fun y hy hw=>?_;clear hk
   rw [e4]
   exact ⟨"dict",_,d.mapOf.typeIs,slot_dict_getitem.lookup,wpAny_getItem_of (intKind_is _ _ k t) d.mapOf hy (hQ _ _ hw)⟩
  ·rw [e1] at io
   rw [e2] at hi
   obtain ⟨hs,kvs,d,hk⟩:=io
   refine x1a1 (hi.inv :) fun t e4=>?_
   have hk:=hk.at (x:=k)
   rw [h] at hk
   refine x1a2 hk fun y hy hw=>?_;clear hk
   rw [e4]
   exact ⟨"dict",_,d.mapOf.typeIs,slot_dict_getitem.lookup,wpAny_getItem_of (strKind_is _ _ k t) d.mapOf hy (hQ _ _ hw)⟩
theorem ix_ok {cx:PySem.Expr→Mine.C} {r:Rc} (hc:WCx C ks r cx) {o i:PySem.Expr} {p:Pos}:WC C ks r (.Subscript o i p) (cIx cx o i):=by
 refine mkC_ok (fun _ _=>rfl) fun v σ κ ε h A F env ρ s Q E H R GQ GE=>?_
 refine Subscript_ ((hc.ok o).x v σ _ ε h A F env ρ s _ E H R ?_ GE)
 intro ρ' σ' s' u vv hu N hv
 refine (hc.ok i).x v σ' _ ε hu A F env ρ' s' _ E (H.mono N.pre) N.rel ?_ (GE.next N)
 intro ρ'' σ'' s'' y w hy N' hw
 refine x1a2 (retO_ok hy :) fun z hz hκ=>?_
 refine x2a3 (ixV_ok (A:=A) (E:=E) (Q:=Q) hz N'.rel (hv.mono N'.pre N'.tk) hw fun ww t hi=>GQ _ _ _ _ _ hκ ((N.trans N').trans (.tok N'.rel t)) hi :) fun K id hT hl hg=>?_
 exact subTail hT hl hg
end
end Mine
end
section
set_option backward.match.sparseCases true
namespace Mine
section
variable {C:SC} {T:Tk} {F:Fm} {ρ:Va} {σ:St} {s:Shared} {A:Around} {env:Env} {ks:Kd} {v:Ve} {Q E:Value→Shared→Prop}
theorem part_ok {x:Value} {a:Option Int} {K:Option Int→Shared→Prop} (hp:IsPart x a) (h:K a s):wpAny (model PW C.w) A (Builtin.Slice.slicePartIndex x) K E s:=by
 cases hp with
 | none=>exact slicePart_none h
 | int i t=>exact slicePart_int h
set_option tactic.hygienic true in
theorem getItem_tupSlice {t sl:Addr} {vs:List Value} {vl vu:Value} {lo hi:Option Int} (ht:IsTup s.heap t vs.toArray) (hs:s.heap.IsSliceOf sl vl vu .none) (pl:IsPart vl lo) (pu:IsPart vu hi) (hsz:vs.length≤sizeLine)
  (h1:(vs.take (clampP vs.length vs.length hi)).drop (clampP vs.length 0 lo) = vs→Q (.ref t) s)
  (h2:Q (.ref s.heap.objs.size) { s with heap:=s.heap.push { cls:=.type "tuple",data:=.seq ((vs.take (clampP vs.length vs.length hi)).drop (clampP vs.length 0 lo)).toArray } }) :
  wpAny (model PW C.w) A (getItem (.ref t) (.ref sl)) Q E s:=by
 refine x1a3 (id hs :) fun os hos hcs hds=>?_
 have hTs:s.TypeIs (.ref sl) "slice":=⟨os,hos,hcs⟩
 have b1:=clampP_le (Nat.zero_le vs.length) lo
 have b2:=clampP_le (Nat.le_refl vs.length) hi
 have ap:∀ {K:Int×Int×Nat→Shared→Prop},K ((clampP vs.length 0 lo:Int),1,clampP vs.length vs.length hi - clampP vs.length 0 lo) s→wpAny (model PW C.w) A.in1 (Builtin.Slice.sliceApplied (.ref sl) (pure (vs.toArray.size:Int))) K E s:=by
  intro K hK
  unfold Builtin.Slice.sliceApplied Builtin.Slice.sliceFields
  refine wpAny_bind (wpAny_bind (wpAny_field hos hds (x:=vl) rfl (wpAny_bind (wpAny_field hos hds (x:=vu) rfl (wpAny_bind (wpAny_field hos hds (x:=.none) rfl (wpAny_pure ?_)))))))
  refine wpAny_bind (slicePart_none ?_)
  show wpAny _ _ (if ((1:Int) == 0) = true then _ else _) _ _ s
  rw [if_neg (by decide)]
  refine wpAny_bind (part_ok pl (wpAny_bind (part_ok pu (wpAny_bind (wpAny_pure ?_)))))
  show wpAny _ _ (match Builtin.Slice.sliceAdjust lo hi 1 (vs.toArray.size:Int) with | (a,b)=>pure (a,(1:Int),Builtin.Slice.slicePlaces a b 1)) _ _ s
  rw [List.size_toArray,adjust_ok]
  dsimp only
  have:Builtin.Slice.slicePlaces (clampP vs.length 0 lo:Int) (clampP vs.length vs.length hi:Int) 1 = clampP vs.length vs.length hi - clampP vs.length 0 lo:=by
   unfold Builtin.Slice.slicePlaces
   have h1:(1:Int) > 0:=by decide
   simp only [h1,if_true,Int.ediv_one]
   split <;> lia
  rw [this]
  exact wpAny_pure hK
 generalize clampP vs.length 0 lo = a at *
 generalize clampP vs.length vs.length hi = b at *
 have hdrop:sizeOk (.seq ((vs.take b).drop a).toArray):=by
  show ((vs.take b).drop a).toArray.size≤sizeLine
  rw [List.size_toArray,List.length_drop,List.length_take]
  lia
 unfold getItem
 try with_reducible refine wpAny_holding ?_
 first | refine wpAny_bind (wpAny_pure ?_) | skip
 refine wpAny_bind (wpAny_sequenceKey ht.typeIs (by decide) ?_)
 refine wpAny_bind (wpAny_callSpecial?_slot (name:=Str.ofString "__getitem__") ht.typeIs slot_tuple_getitem
  (wpAny_call_entry slot_tuple_getitem ht.typeIs entry_tuple_getitem ?_ (args_tuple_getitem _ _)))
 show wpAny _ _ (Builtin.Tuple.tupleItemsOf (.ref t) >>= _) _ _ s
 refine wpAny_bind (tupleItemsOf_ ht ?_)
 refine wpAny_bind (wpAny_typeOf hTs ?_)
 rw [if_pos (by decide)]
 refine wpAny_bind (ap ?_)
 have pick:((List.range (b - a)).filterMap fun (k:Nat)=>vs.toArray[((a:Int) + (k:Int) * 1).toNat]?).toArray = ((vs.take b).drop a).toArray:=by
  have e:(fun (k:Nat)=>vs.toArray[((a:Int) + (k:Int) * 1).toNat]?) = fun k=>vs.toArray[a + k]?:=by
   funext k
   have:((a:Int) + (k:Int) * 1).toNat = a + k:=by rw [Int.mul_one,← Int.natCast_add,Int.toNat_natCast]
   rw [this]
  rw [e]
  have:=pick_run vs.toArray a (b - a)
  rw [List.filterMap_map] at this
  have e2:((fun x=>vs.toArray[x]?) ∘ fun x=>a + x) = fun k=>vs.toArray[a + k]?:=rfl
  rw [e2] at this
  rw [this,List.drop_take]
 show wpAny _ _ (if ((a:Int) == 0 && (1:Int) == 1 && (b - a) == vs.toArray.size) = true then _ else _) _ _ s
 rw [pick]
 split
 ·rename_i q
  have hall:(vs.take b).drop a = vs:=by
   simp only [Bool.and_eq_true,beq_iff_eq,List.size_toArray] at q
   refine x0a2 q fun q0q q2=>?_;clear q;obtain ⟨q1,_⟩:=q0q
   have:a = 0:=by lia
   subst this
   rw [List.drop_zero,List.take_of_length_le (by lia)]
  refine wpAny_bind (m:=Builtin.Tuple.tupleIsExact (.ref t)) (wpAny_bind (wpAny_typeOf ht.typeIs (wpAny_pure ?_)))
  rw [if_pos (by decide)]
  first
   | exact wpAny_bind (wpAny_rule (wpAny_pure ⟨_,rfl,wpAny_pure (h1 hall)⟩))
   | exact wpAny_bind (wpAny_rule (wpAny_bind (wpAny_pure (wpAny_pure ⟨_,rfl,wpAny_pure (h1 hall)⟩))))
   | exact wpAny_bind (wpAny_rule (wpAny_bind (wpAny_pure ⟨_,rfl,wpAny_pure (h1 hall)⟩)))
 ·first
   | exact wpAny_bind (m:=Builtin.Tuple.tupleExact _) (wpAny_newObj_type (wpAny_pure ⟨_,rfl,wpAny_pure h2⟩) hdrop)
   | exact wpAny_bind (m:=Builtin.Tuple.tupleExact _) (wpAny_newObj_type (wpAny_bind (wpAny_pure (wpAny_pure ⟨_,rfl,wpAny_pure h2⟩))) hdrop)
   | exact wpAny_bind (wpAny_bind (m:=Builtin.Tuple.tupleExact _) (wpAny_newObj_type (wpAny_pure (wpAny_pure ⟨_,rfl,wpAny_pure h2⟩)) hdrop))
   | exact wpAny_bind (wpAny_bind (m:=Builtin.Tuple.tupleExact _) (wpAny_newObj_type (wpAny_pure ⟨_,rfl,wpAny_pure h2⟩) hdrop))
theorem opt_ok {cx:PySem.Expr→Mine.C} {r:Rc} (hc:WCx C ks r cx) {e:Option PySem.Expr} {v:Ve} {σ:St} {κ:Option Int→St→Bool} {ε:KX} (h:cOpt cx e r v σ κ ε = true) {A:Around} {F:Fm} {env:Env} {ρ:Va} {s:Shared}
  {Q E:Value→Shared→Prop} (H:EnvOK C A F env ks v ρ) (R:Rel C F ρ σ s) (hQ:∀ ρ' σ' s' a x,κ a σ' = true→Next C F ρ s.heap ρ' σ' s'→IsPart x a→Q x s') (GE:GoE C F ρ s.heap ε E):wpAny (model PW C.w) A (evalPart e env) Q E s:=by
 induction e using Option.casesOn with
 | none=>exact wpAny_pure (hQ _ _ _ _ _ h (.here R) .none)
 | some e =>
  refine (hc.ok e).x v σ _ ε h A F env ρ s _ E H R ?_ GE
  intro ρ' σ' s' u vv hu N hv
  induction hv using IsV.casesOn with
  | int=>exact hQ _ _ _ _ _ hu N (.int _ _)
  | _=>exact ft' hu
theorem slc_ok {cx:PySem.Expr→Mine.C} {r:Rc} (hc:WCx C ks r cx) {o:PySem.Expr} {lo hi:Option PySem.Expr} {p p':Pos}:WC C ks r (.Subscript o (.Slice lo hi none p') p) (cSlc cx o lo hi):=by
 refine mkC_ok (fun _ _=>rfl) fun v σ κ ε h A F env ρ s Q E H R GQ GE=>?_
 refine Subscript_ ((hc.ok o).x v σ _ ε h A F env ρ s _ E H R ?_ GE)
 intro ρ1 σ1 s1 u vv hu N hv
 refine wpAny_Slice (opt_ok hc hu (H.mono N.pre) N.rel ?_ (GE.next N))
 intro ρ2 σ2 s2 a x ha N2 pa
 have N2':=N.trans N2
 refine opt_ok hc ha (H.mono N2'.pre) N2'.rel ?_ (GE.next N2')
 intro ρ3 σ3 s3 b y hb N3 pb
 have N3':=N2'.trans N3
 refine wpAny_pure ?_
 have hv:=hv.mono (N2.pre.trans N3.pre) (N2.tk.trans N3.tk)
 have G3:=GQ.next N3'
 have kp:=keep_push s3.heap { cls:=.type "slice",data:=.fields #[x,y,.none] }
 have R4:Rel C F ρ3 σ3 { s3 with heap:=s3.heap.push { cls:=.type "slice",data:=.fields #[x,y,.none] } }:=N3'.rel.grow kp rfl rfl
 have N4:Next C F ρ3 s3.heap ρ3 σ3 { s3 with heap:=s3.heap.push { cls:=.type "slice",data:=.fields #[x,y,.none] } }:=⟨Va.le.refl _,TK.keeps kp,R4⟩
 have G4:=G3.next N4
 have hv4:=hv.mono (Va.le.refl _) (TK.keeps kp)
 have hs:=Heap.IsSliceOf.new s3.heap x y .none
 induction hv4 using IsV.casesOn with
 | @tup l t vs ht hl =>
  have hb':ifB (fitsN (len l)) (κ (.tup (sliceL l a b)) σ3) false = true:=hb
  refine x0a2 (ifB_ok hb' :) fun h1 h2=>?_
  have hf:=fitsN_ok h1
  rw [len_eq,hl.length] at hf
  rw [sliceL_eq,hl.length] at h2
  have hl':=(hl.take (clampP vs.length vs.length b)).drop (clampP vs.length 0 a)
  refine subTail ht.typeIs slot_tuple_getitem.lookup (getItem_tupSlice ht hs pa pb (fits_line hf) (fun e=>?_) ?_)
  ·rw [e] at hl'
   exact G4 _ _ _ _ _ h2 (.here R4) (.tup ht hl')
  ·refine G4 _ _ _ _ _ h2 ⟨Va.le.refl _,TK.keeps (keep_push _ _),R4.grow (keep_push _ _) rfl rfl⟩ (.tup (IsTup.new _ _) (hl'.mono (Va.le.refl _) (TK.keeps (keep_push _ _))))
 | @loc n t hn =>
  have hb':(match listOf (.loc n) σ3 with | some l=>ifB (fitsN (len l)) (newL κ σ3 (sliceL l a b)) false | none=>false) = true:=hb
  induction eo:σ3.at n using Option.casesOn with
  | none=>simp only [listOf,eo] at hb';exact ft' hb'
  | some ob =>
   have io:=R4.thing hn eo
   simp only [listOf,eo] at hb'
   induction ob using O.casesOn with
   | list l =>
    refine x1a2 io fun vs hL0 hl=>?_;clear io
    have hL:=hL0.isList
    refine x0a2 (ifB_ok hb' :) fun h1 h2=>?_
    have hf:=fitsN_ok h1
    rw [len_eq,hl.length] at hf
    rw [sliceL_eq,hl.length] at h2
    have hl':=(hl.take (clampP vs.length vs.length b)).drop (clampP vs.length 0 a)
    refine x0a2 (newL_at h2 R4 hl' G4 :) fun h3 h4=>?_
    refine subTail hL.typeIs list_getitem_lookup (wpAny_getItem_list_slice hL hs pa pb .none (by simp) ?_ (by rw [List.size_toArray];exact fits_line hf))
    rw [pick_ok]
    simp only [List.size_toArray]
    exact h4
   | _=>exact ft' hb'
 | _=>exact ft' hb
theorem sub_ok {cx:PySem.Expr→Mine.C} {r:Rc} (hc:WCx C ks r cx) {o i:PySem.Expr} {p:Pos}:WC C ks r (.Subscript o i p) (cSub cx o i):=by
 induction i using Expr.casesOn with
 | Slice lo hi st p' =>
  induction st using Option.casesOn with
  | none=>exact slc_ok hc
  | some e=>exact noC_ok
 | _=>exact ix_ok hc
end
end Mine
end
section
namespace Mine
structure Arnd (A:Around) (F:Fm) (d:Nat):Prop where
 frames:A.frames = some F.fs
 hand:A.handled = none
 depth:A.depth≤2 + claimMargin + 3 * d
 units:A.units≤20 + 20 * d
 dep:d≤60
theorem EnvOK.ar {C:SC} {A:Around} {F:Fm} {env:Env} {ks:Kd} {v:Ve} {ρ:Va} (H:EnvOK C A F env ks v ρ):Arnd A F v.dep:=⟨H.frames,H.hand,H.depth,H.units,H.dep⟩
noncomputable def Kept (M:Model) (h:Heap) (f:Value):Prop:=∃ k,(k = Keeper.frame∨k = Keeper.machine∨k = Keeper.boundFrame)∧Looks M h (keeperOf f) k
noncomputable def CallR (Q E:Value→Shared→Prop):Result→Shared→Prop:=fun r s'=>match r with | .ok (.ret v)=>Q v s' | .ok _=>False | .error e=>E e s'
noncomputable def RcOK (C:SC) (r:Rc):Prop:=∀ d f vs σ κ ε,r d f vs σ κ ε = true→∀ A F ρ s Q E fv args,Arnd A F d→Rel C F ρ σ s→IsV ρ s.heap f fv→IsVs ρ s.heap vs args→GoQ C F ρ s.heap κ Q→GoE C F ρ s.heap ε E →
 Kept (model PW C.w) s.heap fv∧wpAny (model PW C.w) A (call fv args) Q E s∧((∃ a,f = .top a)→codeAny (model PW C.w) A (.call fv ⟨args,[]⟩) (CallR Q E) s)
theorem kept_builtin {M:Model} {h:Heap} (i:String):Kept M h (.builtin i):=⟨.machine,.inr (.inl rfl),Looks.of_pure rfl⟩
section
variable {C:SC} {T:Tk} {F:Fm} {ρ:Va} {σ:St} {s:Shared} {A:Around} {env:Env} {ks:Kd} {v:Ve} {Q E:Value→Shared→Prop}
theorem noStar_cons {e:PySem.Expr} {es:List PySem.Expr} (h:noStar (e :: es) = true):(∀ a b,e≠.Starred a b)∧noStar es = true:=by
 refine ⟨fun a b q=>by rw [q] at h;exact ft' h,?_⟩
 induction e using Expr.casesOn with
 | Starred a b=>exact ft' h
 | _=>exact h
theorem noStar_any {pos:Pos}:∀ {l:List PySem.Expr},noStar l = true→(backTo pos (starEach l env)).any (·.1) = false
 | [],_=>rfl
 | e :: es,h=>by
  refine x0a2 (noStar_cons h :) fun h1 h2=>?_
  rw [starEach_plain h1]
  exact noStar_any (l:=es) h2
theorem args_ok {cx:PySem.Expr→Mine.C} {r:Rc} (hc:WCx C ks r cx) {args:List PySem.Expr} (hs:noStar args = true) {pos:Pos} {v:Ve} {σ:St} {κ:KL} {ε:KX} (h:evs cx args r v σ κ ε = true) {A:Around} {F:Fm} {env:Env} {ρ:Va} {s:Shared}
  {Q:Args→Shared→Prop} {E:Value→Shared→Prop} {f:Value} (H:EnvOK C A F env ks v ρ) (R:Rel C F ρ σ s) (G:GoL C F ρ s.heap κ (fun vs s'=>Q ⟨vs,[]⟩ s')) (GE:GoE C F ρ s.heap ε E) :
  wpAny (model PW C.w) A (evalArgs f true (backTo pos (starEach args env)) []) Q E s:=by
 induction args using List.casesOn with
 | nil=>exact evalArgs_nil3 (G _ _ _ _ _ h (.here R) .nil)
 | cons e es =>
  have key:=evs_ok hc (e :: es) pos v σ κ ε h A F env ρ s _ E H R G GE
  rw [starEach_plain (noStar_cons hs).1] at key ⊢
  exact evalArgs_plain key
theorem onC_ok {b:Bool} {c:Mine.C} {r:Rc} {e:PySem.Expr} (h:b = true→WC C ks r e c):WC C ks r e (onC b c):=by
 induction b using Bool.casesOn with
 | true=>exact h rfl
 | false=>exact noC_ok
theorem eval_Call_plain {f:PySem.Expr} {args:List PySem.Expr} {pos:Pos} (h:∀ o a p,f≠.Attribute o a p):eval (.Call f args [] pos) env = (do
  callWith pos (← eval f env) [] (backTo pos (starEach args env)) []):=by
 induction f using Expr.casesOn <;> first | rfl | exact absurd rfl (h _ _ _)
theorem fn_ok {cx:PySem.Expr→Mine.C} {r:Rc} (hc:WCx C ks r cx) (hr:RcOK C r) {f:PySem.Expr} {args:List PySem.Expr} {pos:Pos} (hf:∀ o a p,f≠.Attribute o a p) (hs:noStar args = true):WC C ks r (.Call f args [] pos) (cFn cx f args):=by
 refine mkC_ok (fun _ _=>rfl) fun v σ κ ε h A F env ρ s Q E H R GQ GE=>?_
 rw [eval_Call_plain hf]
 refine wpAny_bind ((hc.ok f).x v σ _ ε h A F env ρ s _ E H R ?_ GE)
 intro ρ' σ' s' g gv hg N hv
 refine callWith_of (P:=fun h=>Kept (model PW C.w) h gv) (by rw [noStar_any hs];rfl) (fun h x=>x) (args_ok hc hs hg (H.mono N.pre) N.rel ?_ (GE.next N))
 intro ρ'' σ'' s'' us vs hus N' hvs
 have N2:=N.trans N'
 have:=hr _ _ _ _ _ _ hus A F ρ'' s'' Q E gv vs H.ar N2.rel (hv.mono N'.pre N'.tk) hvs (GQ.next N2) (GE.next N2)
 exact ⟨this.1,this.2.1⟩
theorem ownMeth {cx:PySem.Expr→Mine.C} {r:Rc} (hc:WCx C ks r cx) {o:PySem.Expr} {x:Str} {args:List PySem.Expr} {pos p:Pos} (ha:∀ x env y,attributeBase o x env y = y) (hs:noStar args = true) (hl:p.endLine = pos.line) (hn:args.length≤29)
  {v:Ve} {σ:St} {κ:KX} {ε:KX} (h:(cx o).x r v σ κ ε = true) {A:Around} {F:Fm} {env:Env} {ρ:Va} {s:Shared} {Q E:Value→Shared→Prop} (H:EnvOK C A F env ks v ρ) (R:Rel C F ρ σ s) (GE:GoE C F ρ s.heap ε E)
  (hQ:∀ ρ' σ' s' u vv,κ u σ' = true→Next C F ρ s.heap ρ' σ' s'→IsV ρ' s'.heap u vv→∀ pl,wpAny (model PW C.w) A (getMethod vv x pl) (fun fx s2=>∃ κ':KL,evs cx args r v σ' κ' ε = true∧Next C F ρ s.heap ρ' σ' s2 ∧
   GoL C F ρ' s2.heap κ' (fun vs s3=>Kept (model PW C.w) s3.heap fx.1∧wpAny (model PW C.w) A (call fx.1 (fx.2++vs)) Q E s3)) E s') :
  wpAny (model PW C.w) A (eval (.Call (.Attribute o x p) args [] pos) env) Q E s:=by
 rw [arm_eval_Call,ha]
 refine wpAny_bind ((hc.ok o).x v σ _ ε h A F env ρ s _ E H R ?_ GE)
 intro ρ' σ' s' u vv hu N hv
 refine wpAny_bind (wpAny_standAt ?_)
 have hform:methodCallForm (args.length + ([]:List Keyword).length) (backTo pos (starEach args env)) (backToKw pos (keywordEach [] env)) = true:=by
  unfold methodCallForm
  have h1:(backTo pos (starEach args env)).all (!·.1) = true:=by
   have:=noStar_any (env:=env) (pos:=pos) hs
   rw [List.all_eq_true]
   intro y hy
   rw [List.any_eq_false] at this
   have:=this y hy
   simpa using this
  rw [h1]
  show (true && true && decide (args.length + 0 + 0 < 30)) = true
  simp
  lia
 unfold methodCall
 rw [hform]
 refine wpAny_bind (wpAny_holding ?_)
 unfold calleeOf
 rw [if_pos rfl]
 refine wpAny_mono (hQ ρ' σ' s' u vv hu N hv _) (fun fx s2 hz=>x1a3 hz fun κ' hκ N2 G2=>?_) fun _ _ x=>x
 obtain ⟨f,first⟩:=fx
 dsimp only
 have hp:methodCallPos true o env p pos = pure pos:=by
  unfold methodCallPos
  rw [if_pos (by simp [hl])]
 rw [hp]
 refine wpAny_bind (wpAny_pure ?_)
 refine callWith_of (P:=fun h=>Kept (model PW C.w) h f) (by rw [noStar_any hs];rfl) (fun h x=>x) (args_ok hc hs hκ (H.mono N2.pre) N2.rel ?_ (GE.next N2))
 exact G2
end
end Mine
end
section
namespace Mine
noncomputable def StoreOK (C:SC) (T:Tk) (r:Rc):Prop:=∀ f x d u vs σ κ ε,storeM T f (key x) r d u vs σ κ ε = true→getFn T (key x) = some f→∀ A F ρ s Q E uv args,Arnd A F d→Rel C F ρ σ s→IsV ρ s.heap u uv→IsVs ρ s.heap vs args →
 GoQ C F ρ s.heap κ Q→GoE C F ρ s.heap ε E→Kept (model PW C.w) s.heap (.ref f)∧wpAny (model PW C.w) A (call (.ref f) (uv :: args)) Q E s
theorem IsVs.splitL {ρ:Va} {h:Heap}:∀ {xs ys:List V} {vs:List Value},IsVs ρ h (xs++ys) vs→∃ p q,vs = p++q∧IsVs ρ h xs p∧IsVs ρ h ys q:=by
 intro xs
 induction xs with
 | nil=>intro _ vs x;exact ⟨[],vs,rfl,.nil,x⟩
 | cons y xs ih=>intro _ vs x;exact x2a3 x.inv fun w ws e0 a r=>x2a3 (ih r) fun p q e h1 h2=>⟨w :: p,q,e0.trans (congrArg (w :: ·) e),.cons a h1,h2⟩
section
variable {C:SC} {T:Tk} {F:Fm} {ρ:Va} {σ:St} {s:Shared} {A:Around} {env:Env} {ks:Kd} {v:Ve} {Q E:Value→Shared→Prop}
set_option tactic.hygienic true in
theorem putZ_ok {σ σ':St} {n:Nat} {o:O} (h:σ.putZ n o = some σ'):σ.fz≤n∧σ' = σ.put n o:=by
 unfold St.putZ at h
 (revert h;refine mB (fun _ h=>?_) fun _ h=>?_)
 ·rename_i q;exact ⟨Nat.le_of_ble_eq_true q,(Option.some.inj h).symm⟩
 ·exact nS' h
set_option tactic.hygienic true in
theorem putK_ok {σ:St} {n:Nat} {o:O} {κ:St→Bool} (h:putK σ n o κ = true):σ.fz≤n∧κ (σ.put n o) = true:=by
 unfold putK at h
 split at h
 ·rename_i σ' e
  refine x0a2 (putZ_ok e :) fun a q1q=>?_;subst q1q
  exact ⟨a,h⟩
 ·exact ft' h
theorem Rel.turnedK {n:Nat} {o':O} {a:Addr} {h':Heap} (t:Nat) (R:Rel C F ρ σ s) (ha:ρ.adr[n]? = some a) (hz:σ.fz≤n) (tk:TK s.heap h')
  (hs:Heap.SameBut a s.heap h') (hl:∃ o,h'.get? a = some o) (H:IsO C ρ h' a o'):Next C F ρ s.heap ρ (σ.put n o') { s with heap:=h',toks:=t } :=
 ⟨Va.le.refl _,tk,R.turn (s':={ s with heap:=h',toks:=t }) ha hz (fun b o q e=>(hs.2 b q).trans e) tk hl H rfl rfl⟩
theorem Rel.turned {n:Nat} {o':O} {a:Addr} {oa:Obj} {h':Heap} (t:Nat) (R:Rel C F ρ σ s) (ha:ρ.adr[n]? = some a) (hz:σ.fz≤n) (e:s.heap.get? a = some oa) (nt:oa.cls≠.type "tuple") (nc:∀ vs q t,oa.data = .fields vs→vs[1]?≠some (.str q t))
  (hs:Heap.SameBut a s.heap h') (hl:∃ o,h'.get? a = some o) (H:TK s.heap h'→IsO C ρ h' a o'):Next C F ρ s.heap ρ (σ.put n o') { s with heap:=h',toks:=t }:=by
 have k:∀ b o,b≠a→s.heap.get? b = some o→h'.get? b = some o:=fun b o q e=>(hs.2 b q).trans e
 have tk:TK s.heap h':=TK.but k e nt nc
 exact ⟨Va.le.refl _,tk,R.turn (s':={ s with heap:=h',toks:=t }) ha hz k tk hl (H tk) rfl rfl⟩
theorem plainList_no {h:Heap} {a:Addr} {items:Array Value} (x:h.PlainList a items):∃ oa,h.get? a = some oa∧oa.cls≠.type "tuple"∧∀ vs q t,oa.data = .fields vs→vs[1]?≠some (.str q t):=by
 refine x1a1 x fun n e=>?_;clear x
 exact ⟨_,e,by simp,fun vs q t z=>by cases z⟩
theorem append_ok {n:Nat} {xs us:List V} {l:Addr} {args:List Value} {κ:KX} (h:appendL n xs us σ κ = true) (e:σ.at n = some (.list xs)) (ha:ρ.adr[n]? = some l) (R:Rel C F ρ σ s) (hu:IsVs ρ s.heap us args) (G:GoQ C F ρ s.heap κ Q) :
  wpAny (model PW C.w) A (call (.builtin "list.append") (.ref l :: args)) Q E s:=by
 refine x1a2 (R.thing ha e :) fun vs hl hvs=>?_
 induction hu using IsVs.casesOn with
 | nil=>exact ft' h
 | @cons u w us ws hu hr =>
  induction hr using IsVs.casesOn with
  | cons _ _=>exact ft' h
  | nil =>
   refine x0a2 (ifB_ok (b:=fitsN (len xs)) h :) fun h1 h2=>?_
   refine x0a2 (putK_ok h2 :) fun hz h3=>?_
   have hf:=fitsN_ok h1
   rw [len_eq,hvs.length] at hf
   refine wpAny_list_append_plain hl (fun h' hpl hs=>?_) (by rw [List.size_toArray];exact fits_line hf)
   refine x1a3 (plainList_no hl :) fun oa he nt nc=>?_
   rw [app_eq] at h3
   have hpl':h'.PlainList l (vs++[w]).toArray:=by simpa using hpl
   have N:=R.turned (o':=.list (xs++[u])) s.toks ha hz he nt nc hs (x1a1 (hpl') fun _ e=>⟨_,e⟩) fun tk=>⟨_,hpl',(hvs.mono (Va.le.refl _) tk).append (.cons (hu.mono (Va.le.refl _) tk) .nil)⟩
   exact G _ _ _ _ _ h3 N .none
theorem pop_ok {n:Nat} {xs us:List V} {l:Addr} {args:List Value} {κ:KX} (h:popL n xs us σ κ = true) (e:σ.at n = some (.list xs)) (ha:ρ.adr[n]? = some l) (R:Rel C F ρ σ s) (hu:IsVs ρ s.heap us args) (G:GoQ C F ρ s.heap κ Q) :
  wpAny (model PW C.w) A (call (.builtin "list.pop") (.ref l :: args)) Q E s:=by
 refine x1a2 (R.thing ha e :) fun vs hl hvs=>?_
 induction hu using IsVs.casesOn with
 | cons _ _=>exact ft' h
 | nil =>
  have h':(match revL xs with | u :: rs=>ifB (fitsN (len xs)) (putK σ n (.list (revL rs)) (κ u)) false | []=>false) = true:=h
  rw [revL_eq] at h'
  induction er:xs.reverse using List.casesOn with
  | nil=>rw [er] at h';exact ft' h'
  | cons u rs =>
   rw [er] at h'
   refine x0a2 (ifB_ok h' :) fun h1 h2=>?_
   refine x0a2 (putK_ok h2 :) fun hz h3=>?_
   have hf:=fitsN_ok h1
   rw [len_eq,hvs.length] at hf
   rw [revL_eq] at h3
   have ex:xs = rs.reverse++[u]:=by rw [← List.reverse_reverse xs,er];simp
   rw [ex] at hvs
   refine x2a3 (hvs.splitL :) fun p q q2q hp hq=>?_;subst q2q
   refine x2a3 (hq.inv :) fun y q' evq hy hq'=>?_;subst evq
   cases hq'
   refine x1a3 (plainList_no hl :) fun oa he nt nc=>?_
   refine x1a1 hl fun k hg=>?_;clear hl
   have hk:(p++[y]).toArray.size - 1 = p.length:=by rw [List.size_toArray,List.length_append];rfl
   have hy':(p++[y]).toArray[(p++[y]).toArray.size - 1]? = some y:=by rw [hk];simp
   refine call_meets PySem.F.slot_list_pop ⟨_,hg,rfl⟩ PySem.F.entry_list_pop (PySem.F.args_list_pop_1 _) (PySem.MeetsSeq.list_pop_last l _ k y hy' (by rw [List.size_toArray];exact fits_line hf)) ⟨hg,?_⟩
   have hpl':(s.heap.update l (Obj.mapSeq fun xs=>xs.eraseIdxIfInBounds ((p++[y]).toArray.size - 1))).PlainList l p.toArray:=by
    have z:=PySem.IsL.update hg (fun xs=>xs.eraseIdxIfInBounds ((p++[y]).toArray.size - 1))
    have e2:(p++[y]).toArray.eraseIdxIfInBounds ((p++[y]).toArray.size - 1) = p.toArray:=by
     rw [hk,kl_erase,List.append_nil]
    rw [e2] at z
    exact ⟨_,z⟩
   have N:=R.turned (o':=.list rs.reverse) s.toks ha hz he nt nc (Heap.SameBut.update ..) (x1a1 (hpl') fun _ e=>⟨_,e⟩) fun tk=>⟨_,hpl',hp.mono (Va.le.refl _) tk⟩
   exact G _ _ _ _ _ h3 N (hy.mono (Va.le.refl _) N.tk)
theorem dget1 {K:Type} [DecidableEq K] {knd:KeyKind PW C.w K} {k:K} {kv:Value} {d:Addr} {kvs:List (K×Value)} (hk:knd.is k kv = true) (hs:(d == sysModules) = false) (hd:s.heap.DictOf knd d kvs) (h:Q ((valueAt kvs k).getD .none) { s with toks:=s.toks + 1 }) :
  wpAny (model PW C.w) A (call (.builtin "dict.get") [.ref d,kv]) Q E s :=
 call_meetsIn PySem.F.slot_dict_get hd.mapOf.typeIs PySem.F.entry_dict_get (PySem.F.args_dict_get_2 _ _) (meets_dict_get knd d hk hs) ⟨_,hd.mapOf,h⟩
theorem dget2 {K:Type} [DecidableEq K] {knd:KeyKind PW C.w K} {k:K} {kv dv:Value} {d:Addr} {kvs:List (K×Value)} (hk:knd.is k kv = true) (hs:(d == sysModules) = false) (hd:s.heap.DictOf knd d kvs) (h:Q ((valueAt kvs k).getD dv) { s with toks:=s.toks + 1 }) :
  wpAny (model PW C.w) A (call (.builtin "dict.get") [.ref d,kv,dv]) Q E s :=
 call_meetsIn PySem.F.slot_dict_get hd.mapOf.typeIs PySem.F.entry_dict_get (PySem.F.args_dict_get_3 _ _ _) (meets_dict_get_default knd d hk hs dv) ⟨_,hd.mapOf,h⟩
theorem appendA_at {n:Nat} {us:List V} {κ:KX} (h:appendA n us σ κ = true):∃ xs,σ.at n = some (.list xs)∧appendL n xs us σ κ = true:=by
 unfold appendA at h
 induction e:σ.at n using Option.casesOn with
 | none=>rw [e] at h;exact ft' h
 | some o=>rw [e] at h;induction o using O.casesOn with
  | list xs=>exact ⟨xs,rfl,h⟩
  | _=>exact ft' h
theorem popA_at {n:Nat} {us:List V} {κ:KX} (h:popA n us σ κ = true):∃ xs,σ.at n = some (.list xs)∧popL n xs us σ κ = true:=by
 unfold popA at h
 induction e:σ.at n using Option.casesOn with
 | none=>rw [e] at h;exact ft' h
 | some o=>rw [e] at h;induction o using O.casesOn with
  | list xs=>exact ⟨xs,rfl,h⟩
  | _=>exact ft' h
noncomputable def isD (o:O):Bool:=match o with | .edict=>true | .sdict _=>true | .idict _=>true | .one _ _=>true | _=>false
theorem isDict {o:O} {d:Addr} (io:IsO C ρ s.heap d o) (h:isD o = true):s.TypeIs (.ref d) "dict"∧∃ ob,s.heap.get? d = some ob∧ob.dict = none:=by
 have nd:∀ {K:Type} [DecidableEq K] {knd:KeyKind PW C.w K} {kvs:List (K×Value)},s.heap.DictOf knd d kvs→s.TypeIs (.ref d) "dict"∧∃ ob,s.heap.get? d = some ob∧ob.dict = none:=fun x=>⟨x.mapOf.typeIs,x.mapOf.noDict d rfl⟩
 induction o using O.casesOn with
 | edict=>exact nd io.2.1
 | sdict m=>obtain ⟨_,kvs,d',_⟩:=io;exact nd d'
 | idict m=>obtain ⟨_,kvs,d',_⟩:=io;exact nd d'
 | one k v=>obtain ⟨_,kvs,d',_⟩:=io;exact nd d'
 | _=>exact ft' h
theorem dgetA {K:Type} [DecidableEq K] {knd:KeyKind PW C.w K} {k:K} {kv dv:Value} {as:List Value} {d:Addr} {kvs:List (K×Value)} (hk:knd.is k kv = true) (hs:(d == sysModules) = false) (hd:s.heap.DictOf knd d kvs) (ha:(as = []∧dv = .none)∨as = [dv]) (h:Q ((valueAt kvs k).getD dv) { s with toks:=s.toks + 1 }) :
  wpAny (model PW C.w) A (call (.builtin "dict.get") (.ref d :: kv :: as)) Q E s:=by
 rcases ha with ⟨rfl,rfl⟩ | rfl
 ·exact dget1 hk hs hd h
 ·exact dget2 hk hs hd h
theorem get_shape {h:Heap} {us:List V} {args:List Value} {x D:V} {r:List V} (hu:IsVs ρ h us args) (e:us = x :: r) (hr:(r = []∧D = .none)∨r = [D]):∃ xv dv as,args = xv :: as∧((as = []∧dv = .none)∨as = [dv])∧IsV ρ h x xv∧IsV ρ h D dv:=by
 rw [e] at hu
 refine x2a3 (hu.inv :) fun xv as e2 hx h2=>?_
 rcases hr with ⟨e3,e4⟩ | e3
 ·rw [e3] at h2;rw [e4];exact ⟨xv,.none,as,e2,.inl ⟨h2.inv,rfl⟩,hx,.none⟩
 ·rw [e3] at h2
  refine x2a3 (h2.inv :) fun dv as' e5 hd h3=>?_
  exact ⟨xv,dv,as,e2,.inr (e5.trans (congrArg _ h3.inv)),hx,hd⟩
theorem getS_at {m:List (Nat×V)} {us:List V} {κ:KX} (h:getS m us σ κ = true):∃ y D r,us = .str y :: r∧((r = []∧D = .none)∨r = [D])∧κ (match lk m (key y) with | some u=>u | none=>D) σ = true:=by
 induction us using List.casesOn with
 | nil=>exact ft' h
 | cons x t =>
 induction x using V.casesOn with
 | str y =>
  induction t using List.casesOn with
  | nil=>exact ⟨_,.none,_,rfl,.inl ⟨rfl,rfl⟩,h⟩
  | cons d t =>
  induction t using List.casesOn with
  | nil=>exact ⟨_,_,_,rfl,.inr rfl,h⟩
  | cons _ _=>exact ft' h
 | _=>exact ft' h
theorem getI_at {m:List (Int×V)} {us:List V} {κ:KX} (h:getI m us σ κ = true):∃ y,us = [.int y]∧κ (match lkI m y with | some u=>u | none=>.none) σ = true:=by
 induction us using List.casesOn with
 | nil=>exact ft' h
 | cons x t =>
 induction x using V.casesOn with
 | int y =>
  induction t using List.casesOn with
  | nil=>exact ⟨_,rfl,h⟩
  | cons _ _=>exact ft' h
 | _=>exact ft' h
theorem getO_at {k:Int} {o:Option V} {us:List V} {κ:KX} (h:getO k o us σ κ = true):us = [.int k]∧κ (orN o) σ = true:=by
 induction us using List.casesOn with
 | nil=>exact ft' h
 | cons x t =>
 induction x using V.casesOn with
 | int y =>
  induction t using List.casesOn with
  | cons _ _=>exact ft' h
  | nil =>
  refine x0a2 (ifB_ok h :) fun h1 h2=>?_
  rw [beqI_eq] at h1
  exact ⟨by rw [of_decide_eq_true h1],h2⟩
 | _=>exact ft' h
theorem plainK_at {x:V} (h:plainK x = true):(∃ i,x = .int i)∨∃ y,x = .str y:=by
 induction x using V.casesOn with
 | int i=>exact .inl ⟨i,rfl⟩
 | str y=>exact .inr ⟨y,rfl⟩
 | _=>exact ft' h
theorem getE_at {us:List V} {κ:KX} (h:getE us σ κ = true):∃ x D r,us = x :: r∧((r = []∧D = .none)∨r = [D])∧plainK x = true∧κ D σ = true:=by
 induction us using List.casesOn with
 | nil=>exact ft' h
 | cons x t =>
 induction t using List.casesOn with
 | nil=>exact ⟨_,.none,_,rfl,.inl ⟨rfl,rfl⟩,ifB_ok h⟩
 | cons d t =>
 induction t using List.casesOn with
 | nil=>exact ⟨_,_,_,rfl,.inr rfl,ifB_ok h⟩
 | cons _ _=>exact ft' h
theorem getA_at {n:Nat} {us:List V} {κ:KX} (h:getA n us σ κ = true):∃ o,σ.at n = some o∧((o = .edict∧getE us σ κ = true)∨(∃ m,o = .sdict m∧getS m us σ κ = true)∨(∃ m,o = .idict m∧getI m us σ κ = true)∨∃ k v,o = .one k v∧getO k v us σ κ = true):=by
 unfold getA at h
 induction eo:σ.at n using Option.casesOn with
 | none=>rw [eo] at h;exact ft' h
 | some o =>
  rw [eo] at h
  refine ⟨o,rfl,?_⟩
  induction o using O.casesOn with
  | edict=>exact .inl ⟨rfl,h⟩
  | sdict m=>exact .inr (.inl ⟨m,rfl,h⟩)
  | idict m=>exact .inr (.inr (.inl ⟨m,rfl,h⟩))
  | one k v=>exact .inr (.inr (.inr ⟨k,v,rfl,h⟩))
  | _=>exact ft' h
noncomputable def orDV (o:Option V) (D:V):V:=match o with | some u=>u | none=>D
theorem orD_ok {ρ:Va} {h:Heap} {ov:Option Value} {o:Option V} {D:V} {dv:Value} (hd:IsV ρ h D dv) (hk:match o with | some u=>∃ v,ov = some v∧IsV ρ h u v | none=>ov = none):IsV ρ h (orDV o D) (ov.getD dv):=by
 induction o using Option.casesOn with
 | none=>rw [show ov = none from hk];exact hd
 | some u=>refine x1a2 hk fun v p r=>?_;clear hk;rw [p];exact r
theorem get_ok {n:Nat} {us:List V} {d:Addr} {args:List Value} {κ:KX} (h:getA n us σ κ = true) (ha:ρ.adr[n]? = some d) (R:Rel C F ρ σ s) (hu:IsVs ρ s.heap us args) (G:GoQ C F ρ s.heap κ Q) :
  wpAny (model PW C.w) A (call (.builtin "dict.get") (.ref d :: args)) Q E s:=by
 refine x1a2 (getA_at h :) fun o eo h=>?_
 have io:=R.thing ha eo
 rcases h with ⟨e,h⟩ | ⟨m,e,h⟩ | ⟨m,e,h⟩ | ⟨k,v,e,h⟩
 ·rw [e] at io
  refine x0a3 io fun hs d1 d2=>?_;clear io
  refine x3a4 (getE_at h :) fun x D r eu hr hp h=>?_
  refine x3a4 (get_shape hu eu hr :) fun xv dv as ea has hx hD=>?_
  rw [ea]
  rcases plainK_at hp with ⟨i,e⟩ | ⟨y,e⟩
  ·rw [e] at hx
   refine x1a1 (hx.inv :) fun t e=>?_
   rw [e]
   exact dgetA (intKind_is _ _ i t) hs d2 has (G _ _ _ _ _ h (.tok R _) hD)
  ·rw [e] at hx
   refine x1a1 (hx.inv :) fun t e=>?_
   rw [e]
   exact dgetA (strKind_is _ _ y t) hs d1 has (G _ _ _ _ _ h (.tok R _) hD)
 ·rw [e] at io
  obtain ⟨hs,kvs,dd,hk⟩:=io
  refine x3a3 (getS_at h :) fun y D r eu hr h=>?_
  refine x3a4 (get_shape hu eu hr :) fun xv dv as ea has hx hD=>?_
  refine x1a1 (hx.inv :) fun t e=>?_
  rw [ea,e]
  exact dgetA (strKind_is _ _ y t) hs dd has (G _ _ _ _ _ h (.tok R _) (orD_ok hD (hk.at (x:=y))))
 ·rw [e] at io
  obtain ⟨hs,kvs,dd,hk⟩:=io
  refine x1a2 (getI_at h :) fun y eu h=>?_
  refine x3a4 (get_shape (D:=.none) hu eu (.inl ⟨rfl,rfl⟩) :) fun xv dv as ea has hx hD=>?_
  refine x1a1 (hx.inv :) fun t e=>?_
  rw [ea,e]
  exact dgetA (intKind_is _ _ y t) hs dd has (G _ _ _ _ _ h (.tok R _) (orD_ok hD (hk.at (x:=y))))
 ·rw [e] at io
  obtain ⟨hs,kvs,dd,hk⟩:=io
  refine x0a2 (getO_at h :) fun eu h=>?_
  refine x3a4 (get_shape (D:=.none) hu eu (.inl ⟨rfl,rfl⟩) :) fun xv dv as ea has hx hD=>?_
  refine x1a1 (hx.inv :) fun t e=>?_
  rw [ea,e]
  refine dgetA (intKind_is _ _ k t) hs dd has (G _ _ _ _ _ h (.tok R _) ?_)
  induction v using Option.casesOn with
  | none=>rw [show _ = none from hk];exact hD
  | some u=>refine x1a2 hk fun v p r=>?_;clear hk;rw [p];exact r
theorem kBeq {x:Str} {k:Nat} {n:Str} (h:Nat.beq (key x) k = true) (e:k = key n):x = n:=key_inj ((Nat.eq_of_beq_eq_true h).trans e)
theorem getMethod_own (G:Gr C T) {n:Nat} {c d:Nat} {cl:Cl} {f:Nat} {x:Str} {u:Value} {pl:Sem Bool} {Q:Value×List Value→Shared→Prop} (R:Rel C F ρ σ s) (hv:IsV ρ s.heap (.loc n) u) (e1:σ.at n = some (.inst c d)) (hl0:ifB (notExc T c) (lacks d (key x) σ) false = true)
  (e2:T.tx.cls.get c = some cl) (e3:lk cl.meths (key x) = some f) (h:Q (.ref f,[u]) s):wpAny (model PW C.w) A (getMethod u x pl) Q E s:=by
 refine x0a2 (ifB_ok hl0 :) fun hne hl=>?_
 have hex:=notExc_ok hne e2
 refine x1a2 (hv.inv :) fun a evq ha=>?_;subst evq
 unfold lacks at hl
 induction ed:σ.at d using Option.casesOn with
 | none=>rw [ed] at hl;exact ft' hl
 | some od =>
  rw [ed] at hl
  induction od using O.casesOn with
  | attrs m =>
   refine x6a1 (R.inst ha e1 ed :) fun ox ob dx es k mm I=>?_
   have K:=G.cls c cl e2
   refine x0a3 (K.meth hex x f e3 :) fun hm hf hfn=>?_
   have hn:mm x = none:=by
    refine I.is.none ?_
    dsimp only at hl
    induction q:lk m (key x) using Option.casesOn with
    | none=>rfl
    | some _=>rw [q] at hl;exact ft' hl
   exact method_fn (G.Xs R) I.at_ (K.get hex) (K.noget hex) hm (beq_iff_eq.mp hf) (by unfold shadowIn;dsimp only;rw [lookIn_ns I.data I.keys I.ns x,hn];rfl) h
  | _=>exact ft' hl
theorem meth_ok (G:Gr C T) {cx:PySem.Expr→Mine.C} {r:Rc} (hc:WCx C ks r cx) (hr:RcOK C r) (hS:StoreOK C T r) {o:PySem.Expr} {x:Str} {args:List PySem.Expr} {pos p:Pos} (hs:noStar args = true) (hl:p.endLine = pos.line) (hn:args.length≤29) :
  WC C ks r (.Call (.Attribute o x p) args [] pos) (cMeth T cx o (key x) args):=by
 refine noCall_ok fun ha=>?_
 refine mkC_ok (fun _ _=>rfl) fun v σ κ ε h A F env ρ s Q E H R GQ GE=>?_
 refine ownMeth hc ha hs hl hn h H R GE ?_
 intro ρ' σ' s' u vv hu N hv pl
 induction u using V.casesOn with
 | loc n =>
  have hu':(match σ'.at n with | some o=>methK T cx (key x) args r v σ' κ ε (.loc n) n o | none=>false) = true:=hu
  induction eo:σ'.at n using Option.casesOn with
  | none=>rw [eo] at hu';exact ft' hu'
  | some ob =>
   rw [eo] at hu'
   have hv':=hv
   cases hv with
   | @loc _ a hna =>
   have io:=N.rel.thing hna eo
   have dict:isD ob = true→ifB (Nat.beq (key x) T.kGet) (evs cx args r v σ' (fun vs σ1=>getA n vs σ1 κ) ε) false = true →
     wpAny (model PW C.w) A (getMethod (.ref a) x pl) (fun fx s2=>∃ κ':KL,evs cx args r v σ' κ' ε = true∧Next C F ρ s.heap ρ' σ' s2 ∧
      GoL C F ρ' s2.heap κ' (fun vs s3=>Kept (model PW C.w) s3.heap fx.1∧wpAny (model PW C.w) A (call fx.1 (fx.2++vs)) Q E s3)) E s':=fun hd hh=>by
    refine x0a2 (ifB_ok hh :) fun h1 h2=>?_
    obtain rfl:=kBeq h1 G.nGet
    refine x0a2 (isDict io hd :) fun ht nd=>?_
    refine getMethod_builtin ht PySem.F.plainAttrs_dict PySem.F.slot_dict_get PySem.F.type_dict_get (fun b e=>by cases e;exact nd) ⟨_,h2,N,?_⟩
    intro ρ2 σ2 s2 us ws hw N2 hws
    exact ⟨kept_builtin _,get_ok hw (getpre N2.pre.adr hna) N2.rel hws (GQ.next (N.trans N2))⟩
   induction ob using O.casesOn with
   | inst c d =>
    refine x0a2 (ifB_ok (b:=ifB (notExc T c) (lacks d (key x) σ') false) hu' :) fun h1 h2=>?_
    have h2':(match T.tx.cls.get c with | some cl=>(match lk cl.meths (key x) with | some f=>evs cx args r v σ' (fun vs σ1=>ownC T c (key x) f r v (.loc n) κ ε vs σ1) ε | none=>false) | none=>false) = true:=h2
    induction ec:T.tx.cls.get c using Option.casesOn with
    | none=>rw [ec] at h2';exact ft' h2'
    | some cl =>
     rw [ec] at h2'
     dsimp only at h2'
     induction ef:lk cl.meths (key x) using Option.casesOn with
     | none=>rw [ef] at h2';exact ft' h2'
     | some f =>
      rw [ef] at h2'
      refine getMethod_own G N.rel hv' eo h1 ec ef ⟨_,h2',N,?_⟩
      intro ρ2 σ2 s2 us ws hw N2 hws
      have NN:=N.trans N2
      have hv2:=hv'.mono N2.pre N2.tk
      have hw':ownC T c (key x) f r v (.loc n) κ ε us σ2 = true:=hw
      unfold ownC at hw'
      induction eb:Nat.beq c T.tx.isStore using Bool.casesOn with
      | false =>
       rw [eb] at hw'
       have:=hr _ _ _ _ _ _ hw' A F ρ2 s2 Q E (.ref f) (.ref a :: ws) H.ar NN.rel .top (.cons hv2 hws) (GQ.next NN) (GE.next NN)
       exact ⟨this.1,this.2.1⟩
      | true =>
       rw [eb] at hw'
       have ec':getFn T (key x) = some f:=by
        unfold getFn
        rw [← Nat.eq_of_beq_eq_true eb,ec];exact ef
       exact hS f x v.dep (.loc n) us σ2 κ ε hw' ec' A F ρ2 s2 Q E (.ref a) ws H.ar NN.rel hv2 hws (GQ.next NN) (GE.next NN)
   | list xs =>
    refine x1a2 io fun vs hpl hvs=>?_;clear io
    have nd:∃ o,s'.heap.get? a = some o∧o.dict = none:=x1a1 (hpl) fun _ e=>⟨_,e,rfl⟩
    have hu2:ifB (Nat.beq (key x) T.kAppend) (evs cx args r v σ' (fun vs σ1=>appendA n vs σ1 κ) ε) (ifB (Nat.beq (key x) T.kPop) (evs cx args r v σ' (fun vs σ1=>popA n vs σ1 κ) ε) false) = true:=hu'
    induction eb:Nat.beq (key x) T.kAppend using Bool.casesOn with
    | true =>
     rw [eb] at hu2
     obtain rfl:=kBeq eb G.nAppend
     refine getMethod_builtin hpl.isList.typeIs PySem.F.plainAttrs_list PySem.F.slot_list_append PySem.F.type_list_append (fun b e=>by cases e;exact nd) ⟨_,hu2,N,?_⟩
     intro ρ2 σ2 s2 us ws hw N2 hws
     refine x1a2 (appendA_at hw :) fun ys e2 hw2=>?_
     exact ⟨kept_builtin _,append_ok hw2 e2 (getpre N2.pre.adr hna) N2.rel hws (GQ.next (N.trans N2))⟩
    | false =>
     rw [eb] at hu2
     refine x0a2 (ifB_ok (b:=Nat.beq (key x) T.kPop) hu2 :) fun h1 h2=>?_
     obtain rfl:=kBeq h1 G.nPop
     refine getMethod_builtin hpl.isList.typeIs PySem.F.plainAttrs_list PySem.F.slot_list_pop PySem.F.type_list_pop (fun b e=>by cases e;exact nd) ⟨_,h2,N,?_⟩
     intro ρ2 σ2 s2 us ws hw N2 hws
     refine x1a2 (popA_at hw :) fun ys e2 hw2=>?_
     exact ⟨kept_builtin _,pop_ok hw2 e2 (getpre N2.pre.adr hna) N2.rel hws (GQ.next (N.trans N2))⟩
   | edict=>exact dict rfl hu'
   | sdict m=>exact dict rfl hu'
   | idict m=>exact dict rfl hu'
   | one k v=>exact dict rfl hu'
   | _=>exact ft' hu'
 | _=>exact ft' hu
end
end Mine
end
section
namespace Mine
section
variable {C:SC} {T:Tk} {F:Fm} {ρ:Va} {σ:St} {s:Shared} {A:Around} {env:Env} {ks:Kd} {v:Ve} {Q E:Value→Shared→Prop}
noncomputable def isAtt (e:PySem.Expr):Bool:=match e with | .Attribute _ _ _=>true | _=>false
theorem call_ok (G:Gr C T) {cx:PySem.Expr→Mine.C} {r:Rc} (hc:WCx C ks r cx) (hr:RcOK C r) (hS:StoreOK C T r) {f:PySem.Expr} {args:List PySem.Expr} {kws:List Keyword} {pos:Pos} :
  WC C ks r (.Call f args kws pos) (isNil kws (cCall T cx f args pos) noC):=by
 induction kws using List.casesOn with
 | cons _ _=>exact noC_ok
 | nil =>
  refine onC_ok fun hs=>?_
  induction f using Expr.casesOn with
  | Attribute o a p =>
   refine onC_ok fun h=>?_
   refine x0a2 (ifB_ok h :) fun h1 h2=>?_
   have h2:=Nat.le_of_ble_eq_true h2
   rw [len_eq] at h2
   exact meth_ok G hc hr hS hs (Nat.eq_of_beq_eq_true h1) h2
  | _=>exact fn_ok hc hr (fun _ _ _ q=>ft' (congrArg isAtt q)) hs
theorem trip1 {q:Str} {t:Tok} (l:List Value) (h:TriplesOk l) (z:l[1]? = some (.str q t)):False:=by
 fun_induction TriplesOk l with
 | case1=>exact nS' z
 | case2 a' t b' u x rest ih=>exact Value.noConfusion (Option.some.inj z)
 | case3=>exact h
set_option tactic.hygienic true in
theorem codeAmong_snoc_or {p:Pos} {a b:Int} {c cv:Value} (l:List Value) (h:TriplesOk l) (e:codeAmong p (l++[rawInt a,rawInt b,c]) = some cv):codeAmong p l = some cv∨cv = c:=by
 fun_induction TriplesOk l with
 | case1 =>
  simp only [List.nil_append,codeAmong,rawInt] at e
  (revert e;refine ifR (fun _ e=>?_) fun _ e=>?_)
  ·exact .inr (Option.some.inj e).symm
  ·exact nS' e
 | case2 a' t b' u x rest ih =>
  simp only [List.cons_append,codeAmong] at e ⊢
  (revert e;refine ifR (fun _ e=>?_) fun _ e=>?_)
  ·rename_i hc;rw [if_pos hc];exact .inl e
  ·rename_i hc;rw [if_neg hc];exact ih h e
 | case3 l h1 h2=>exact h.elim
theorem Rel.tabbed (R:Rel C F ρ σ s) {h':Heap} {t:Nat} (hx:Heap.ExtBut C.P s.heap h') (hP:C.h0.get? C.P≠none) (hPb:C.base.get? C.P = none) (tk:TK s.heap h') (hT:Tab C h'):Rel C F ρ σ { s with heap:=h',toks:=t }:=by
 have ne:∀ a,C.h0.get? a = none→a≠C.P:=fun a e q=>hP (q▸e)
 have k:∀ a,C.h0.get? a = none→∀ o,s.heap.get? a = some o→h'.get? a = some o:=fun a e o q=>hx a o (ne a e) q
 exact {
  bk:=fun a o e=>hx a o (fun q=>by rw [q,hPb] at e;exact nS' e) (R.bk a o e)
  bn:=R.bn
  keep:=fun a o e n=>hx a o n (R.keep a o e n)
  fresh:=R.fresh
  nodup:=R.nodup
  live:=fun a ha=>x1a1 (R.live a ha) fun o e=>⟨o,k a (R.fresh a ha) o e⟩
  nxt:=R.nxt
  syn:=R.syn
  led:=fun n o e=>x1a2 (R.led n o e) fun a p q=>⟨a,p,q.mono (Va.le.refl _) tk (k a (R.fresh a (List.mem_of_getElem? p)))⟩
  cur:=y12 (R.cur) fun x mm n m=>⟨x.mono (k _ x.h0),mm,Ns_keep (k _ x.h0) n,m.mono (Va.le.refl _) tk⟩
  fr:=fun p hp=>y22 (R.fr p hp) fun x y mm n m=>⟨⟨x.mono (k _ x.h0),y⟩,mm,Ns_keep (k _ x.h0) n,m.mono (Va.le.refl _) tk⟩
  held:=fun p hp=>x0a4 (R.held p hp) fun x y z w=>⟨x.mono (k _ x.h0),y,z,k _ x.h0 _ w⟩
  tab:=hT
  gens:=R.gens
  os:=R.os
  frames:=by
   have:∀ l,(∀ env∈l,∀ b,env.frame = some b→C.h0.get? b = none)→s.heap.FunFrames C.h0 l→h'.FunFrames C.h0 l:=by
    intro l
    induction l with
    | nil=>exact fun _ _=>trivial
    | cons env r ih =>
     (intro hn hz;refine x0a3 hz fun hk hm hr=>?_;refine x2a4 hm fun L ob hf hn' hob hd=>?_;clear hz hm)
     exact ⟨hk,⟨L,ob,hf,hn',k _ hn' _ hob,hd⟩,ih (fun e he=>hn e (.tail _ he)) hr⟩
   refine this _ (fun env he b hb=>?_) R.frames
   rcases R.frame_mem he hb with q | ⟨p,hp,q⟩
   ·exact q▸R.cur.1.h0
   ·exact q▸(R.fr p hp).1.1.h0
  fsL:=R.fsL }
set_option tactic.hygienic true in
theorem closureFor_go (env:Env):∀ (ns:List (Str×NameKind)) (cells:List (Nat×Nat)) (cs:List (Nat×Nat)) (acc:List (Str×Addr)),capt cells ns = some cs→(∀ x n,lk cells (key x) = some n→∃ c,env.cells.lookup x = some c∧ρ.adr[n]? = some c) →
  (∀ x c,(x,c)∈acc→env.cells.lookup x = some c) →
  ∃ clos,(ns.foldlM (init:=acc) fun (cs:List (Str×Addr)) (p:Str×NameKind)=>(if p.2 == .free then (do let a ← cellOf env p.1;pure ((p.1,a) :: cs)) else pure cs:Sem (List (Str×Addr)))) = pure clos ∧
   (∀ x c,(x,c)∈clos→env.cells.lookup x = some c)∧(∀ q∈acc,q∈clos)∧∀ x n,lk cs (key x) = some n→∃ c,(x,c)∈clos∧ρ.adr[n]? = some c:=by
 intro lq
 induction lq with
 | nil =>
  intro cells cs acc h _ ha
  (refine jS h fun j=>?_;clear h;subst j)
  exact ⟨acc,rfl,ha,fun _ q=>q,fun x n e=>by exact nS' e⟩
 | cons hq ns ih =>
  obtain ⟨y,k⟩:=hq
  intro cells cs acc h hc ha
  induction k using NameKind.casesOn with
  | free =>
   have h':(match lk cells (key y) with | some n=>(match capt cells ns with | some r=>some ((key y,n) :: r) | none=>none) | none=>none) = some cs:=h
   induction e1:lk cells (key y) using Option.casesOn with
   | none=>rw [e1] at h';exact nS' h'
   | some n =>
    rw [e1] at h'
    dsimp only at h'
    induction e2:capt cells ns using Option.casesOn with
    | none=>rw [e2] at h';exact nS' h'
    | some r =>
     rw [e2] at h'
     (refine jS h' fun j=>?_;clear h';subst j)
     refine x1a2 (hc y n e1 :) fun c h1 h2=>?_
     refine x1a4 (ih cells r ((y,c) :: acc) e2 hc fun x c' hm=>by
      rcases List.mem_cons.mp hm with q | q
      ·cases q;exact h1
      ·exact ha x c' q :) fun clos g1 g2 g3 g4=>?_
     refine ⟨clos,?_,g2,fun q hq=>g3 q (.tail _ hq),fun x n' e=>?_⟩
     ·rw [List.foldlM_cons]
      have:(cellOf env y:Sem Addr) = pure c:=by unfold cellOf;rw [h1]
      simp only [beq_self_eq_true,if_true,this,pure_bind]
      exact g1
     ·rw [lk_cons] at e
      (revert e;refine ifR (fun _ e=>?_) fun _ e=>?_)
      ·rename_i q
       obtain rfl:=key_inj q
       (refine jS e fun j=>?_;clear e;subst j)
       exact ⟨c,g3 _ (.head _),h2⟩
      ·exact g4 x n' e
  | _ =>
   refine x1a4 (ih cells cs acc h hc ha :) fun clos g1 g2 g3 g4=>?_
   exact ⟨clos,by rw [List.foldlM_cons];exact g1,g2,g3,g4⟩
theorem forIn_fold (env:Env):∀ (ns:List (Str×NameKind)) (acc:List (Str×Addr)),(forIn ns acc fun (p:Str×NameKind) (cs:List (Str×Addr))=>(if p.2 == .free then (do let a ← cellOf env p.1;pure (ForInStep.yield ((p.1,a) :: cs))) else pure (ForInStep.yield cs):Sem (ForInStep (List (Str×Addr))))) =
  (ns.foldlM (init:=acc) fun (cs:List (Str×Addr)) (p:Str×NameKind)=>(if p.2 == .free then (do let a ← cellOf env p.1;pure ((p.1,a) :: cs)) else pure cs:Sem (List (Str×Addr)))):=by
 intro lq
 induction lq with
 | nil =>
  intro _
  exact rfl
 | cons p ns ih =>
  intro acc
  rw [List.forIn_cons,List.foldlM_cons]
  split
  ·simp only [bind_assoc,pure_bind]
   congr 1
   funext a
   exact ih _
  ·simp only [pure_bind]
   exact ih _
theorem closureFor_ok {sc:Scope} {cells cs:List (Nat×Nat)} (h:capt cells sc.names = some cs) (hc:∀ x n,lk cells (key x) = some n→∃ c,env.cells.lookup x = some c∧ρ.adr[n]? = some c) :
  ∃ clos,closureFor sc env = pure clos∧∀ x n,lk cs (key x) = some n→∃ c,clos.lookup x = some c∧ρ.adr[n]? = some c:=by
 refine x1a4 (closureFor_go env sc.names cells cs [] h hc (fun _ _ q=>by cases q) :) fun clos g1 g2 _ g4=>?_
 refine ⟨clos,?_,fun x n e=>?_⟩
 ·unfold closureFor
  simp only [bind_pure]
  rw [← g1,← forIn_fold env sc.names []]
 ·refine x1a2 (g4 x n e :) fun c hm ha=>?_
  have:∀ l:List (Str×Addr),(∀ c',(x,c')∈l→c' = c)→(x,c)∈l→l.lookup x = some c:=by
   intro l
   induction l with
   | nil=>intro _ q;cases q
   | cons p r ih =>
    intro hu hm
    obtain ⟨y,d⟩:=p
    rw [List.lookup_cons]
    by_cases q:x = y
    ·subst q
     rw [beq_self_eq_true]
     exact congrArg some (hu d (.head _))
    ·rw [beq_eq_false_iff_ne.mpr q]
     refine ih (fun c' hc'=>hu c' (.tail _ hc')) ?_
     rcases List.mem_cons.mp hm with z | z
     ·cases z;exact absurd rfl q
     ·exact z
  refine ⟨c,this clos (fun c' hc'=>?_) hm,ha⟩
  have:=(g2 x c' hc').symm.trans (g2 x c hm)
  exact Option.some.inj this
theorem isNoArgs_ok {a:Arguments} (h:isNoArgs a = true):a = noArgs:=by
 cases a with
 | mk a1 a2 a3 a4 a5 a6 a7 =>
 induction a1 using List.casesOn with
 | cons _ _=>exact ft' h
 | nil =>
 induction a2 using List.casesOn with
 | cons _ _=>exact ft' h
 | nil =>
 induction a3 using Option.casesOn with
 | some _=>exact ft' h
 | none =>
 induction a4 using List.casesOn with
 | cons _ _=>exact ft' h
 | nil =>
 induction a5 using List.casesOn with
 | cons _ _=>exact ft' h
 | nil =>
 induction a6 using Option.casesOn with
 | some _=>exact ft' h
 | none =>
 induction a7 using List.casesOn with
 | cons _ _=>exact ft' h
 | nil=>rfl
theorem codeHd_ne {h:Heap} {c P:Addr} (x:CodeHd h c P):c≠P:=by
 refine x9a2 x fun _ _ _ _ _ _ _ _ _ _ r=>?_;clear x
 exact r.2.2.2.2.2.2.2.2
theorem codeHd_of {h h':Heap} {c P:Addr} (x:CodeHd h c P) (k:∀ o,h.get? c = some o→h'.get? c = some o):CodeHd h' c P:=by
 refine x9a2 x fun a b c d e f g i j q r=>?_;clear x
 exact ⟨a,b,c,d,e,f,g,i,j,k _ q,r⟩
theorem lam_ok (G:Gr C T) {r:Rc} {args:Arguments} {body:PySem.Expr} {sc:Scope} {p:Pos}:WC C ks r (.Lambda args body sc p) (cLam args body sc):=by
 refine onC_ok fun ha=>onC_ok fun hsc=>?_
 obtain rfl:=isNoArgs_ok ha
 refine mkC_ok (fun _ _=>rfl) fun v σ κ ε h A F env ρ s Q E H R GQ GE=>?_
 refine x0a2 (ifB_ok h :) fun h1 h2=>?_
 induction ec:capt v.cells sc.names using Option.casesOn with
 | none=>rw [ec] at h2;exact ft' h2
 | some cs =>
  rw [ec] at h2
  have h3:κ (.loc σ.nxt) (σ.new (.clos cs sc body)) = true:=h2
  refine x1a3 (H.law (Nat.eq_of_beq_eq_true h1) :) fun c hcode hd hq=>?_
  refine x1a2 (closureFor_ok ec H.cells :) fun clos hcl hmap=>?_
  refine x1a3 (R.tab.tab :) fun ps hP ht hrec=>?_
  refine x0a2 (globals_main H :) fun eg _=>?_
  have hcp:c≠C.P:=codeHd_ne (h:=C.h0) hd
  have hd':CodeHd s.heap c C.P:=codeHd_of (h:=C.h0) hd fun _ e=>R.keep _ _ e hcp
  have hb:s.heap.BuiltinsAt G.mg C.P:=let ⟨bm,o,a1,a2,a3,a4,a5,a6⟩:=G.bAt;⟨bm,o,a1,a2,a3,a4,R.keep _ _ a5 a4,a6⟩
  have fin:∀ (h':Heap) (tk:Nat) (cv ctv:Value),Rel C F ρ σ { s with heap:=h',toks:=tk }→TK s.heap h'→h'.CodeRec cv C.lq →
    Q (.ref h'.objs.size) { s with heap:=h'.push { cls:=.type "function",data:=.func (kla_fn "<lambda>" C.lq noArgs body sc clos C.pm cv ctv) },toks:=tk }:=fun h' tk cv ctv R' tk' hr=>by
   have N:=R'.push (o:=.clos cs sc body) (ob:={ cls:=.type "function",data:=.func (kla_fn "<lambda>" C.lq noArgs body sc clos C.pm cv ctv) }) rfl tk
    ⟨_,clos,cv,ctv,Heap.get?_push_size _ rfl,rfl,hr.keeps (keep_push _ _),hsc,fun x n e=>x1a2 (hmap x n e) fun c a b=>⟨c,a,getpre (le_more _ _).adr b⟩⟩
   exact GQ _ _ _ _ _ h3 ⟨N.pre,tk'.trans N.tk,N.rel⟩ R'.nxt_loc
  refine kla_eval rfl ?_
  rw [hq]
  induction hf:codeAmong p ps.toList using Option.casesOn with
  | some cv =>
   refine kla_makeFunctionHit hcl eg (G.gs R) hcode hd' hP ht hf hb fun ctv h' tk hk _=>?_
   rw [← G.pmE]
   exact fin h' tk cv ctv (R.grow (s':={ s with heap:=h',toks:=tk }) hk rfl rfl) (TK.keeps hk) ((hrec p cv hf).keeps hk)
  | none =>
   refine kla_makeFunction hcl eg (G.gs R) hcode hd' hP ht hf G.gP hb fun c' ctv h' tk hx _ _ hr hP'=>?_
   rw [← G.pmE]
   have tk':TK s.heap h':=by
    refine ⟨fun b items hz=>x1a3 hz fun o ho hc r=>⟨o,hx b o (fun q=>?_) ho,hc,r⟩,fun cv q hz=>x4a4 hz fun c2 o vs t e g d r=>⟨c2,o,vs,t,e,hx _ _ (fun z=>?_) g,d,r⟩⟩
    ·rw [q,hP] at ho;(refine jS ho fun j=>?_;clear ho;subst j);cases hc
    ·rw [z,hP] at g
     (refine jS g fun j=>?_;clear g;subst j)
     cases d
     exact trip1 ps.toList ht (by rw [Array.getElem?_toList];exact r)
   refine fin h' tk _ ctv (R.tabbed hx (fun q=>by refine x1a1 (C.hP :) fun o e=>?_;rw [q] at e;exact nS' e) C.hB tk' ⟨_,hP',?_,fun pos cv e=>?_⟩) tk' hr
   ·rw [Array.toList_append];exact TriplesOk_snoc _ _ _ _ ht
   ·rw [Array.toList_append] at e
    rcases codeAmong_snoc_or _ ht e with e | rfl
    ·exact tk'.code _ _ (hrec pos cv e)
    ·exact hr
end
end Mine
end
section
namespace Mine
section
variable {β:Type}
noncomputable def addD (sl:List (Str×β)) (p:Str×β):List (Str×β):=if (sl.lookup p.1).isNone then sl++[p] else sl
theorem lookup_append_some {l m:List (Str×β)} {x:Str} {v:β} (h:l.lookup x = some v):(l++m).lookup x = some v:=by
 induction l with
 | nil=>exact nS' h
 | cons p l ih =>
  obtain ⟨y,w⟩:=p
  rw [List.cons_append,List.lookup_cons] at *
  induction q:x == y using Bool.casesOn with
  | true=>rw [q] at h;exact h
  | false=>rw [q] at h;exact ih h
theorem lookup_append_none {l m:List (Str×β)} {x:Str} (h:l.lookup x = none):(l++m).lookup x = m.lookup x:=by
 induction l with
 | nil=>rfl
 | cons p l ih =>
  obtain ⟨y,w⟩:=p
  rw [List.cons_append]
  rw [List.lookup_cons] at *
  induction q:x == y using Bool.casesOn with
  | true=>rw [q] at h;exact sN' h
  | false=>rw [q] at h;exact ih h
theorem lookup_addD {sl:List (Str×β)} {p:Str×β} {x:Str} {v:β} (h:sl.lookup x = some v):(addD sl p).lookup x = some v:=by
 unfold addD
 split
 ·exact lookup_append_some h
 ·exact h
theorem lookup_foldD {x:Str} {v:β}:∀ (l:List (Str×β)) (sl:List (Str×β)),sl.lookup x = some v→(l.foldl addD sl).lookup x = some v:=by
 intro lq
 induction lq with
 | nil =>
  intro _ h
  exact h
 | cons p l ih =>
  intro sl h
  exact ih (addD sl p) (lookup_addD h)
theorem lookup_foldD_new {x:Str} {v:β}:∀ (l:List (Str×β)) (sl:List (Str×β)),sl.lookup x = none→(l.map (·.1)).Nodup→(x,v)∈l→(l.foldl addD sl).lookup x = some v:=by
 intro lq
 induction lq with
 | nil =>
  intro _ _ _ h
  cases h
 | cons hq l ih =>
  obtain ⟨y,w⟩:=hq
  intro sl h hn hm
  rw [List.map_cons,List.nodup_cons] at hn
  rw [List.foldl_cons]
  rcases List.mem_cons.mp hm with q | q
  ·cases q
   refine lookup_foldD l _ ?_
   unfold addD
   rw [h]
   simp only [Option.isNone_none,if_true]
   rw [lookup_append_none h]
   simp
  ·have hxy:x≠y:=fun z=>hn.1 (z▸List.mem_map.mpr ⟨_,q,rfl⟩)
   refine ih _ ?_ hn.2 q
   unfold addD
   split
   ·rw [lookup_append_none h]
    have:(x == y) = false:=beq_eq_false_iff_ne.mpr hxy
    simp [List.lookup_cons,this]
   ·exact h
theorem lookup_zip_none {x:Str}:∀ (ps:List Str) (vs:List β),x ∉ ps.take vs.length→(ps.zip vs).lookup x = none:=by
 intro ps
 induction ps with
 | nil=>intro _ _;rfl
 | cons p ps ih =>
  intro vs h
  induction vs using List.casesOn with
  | nil=>rfl
  | cons v vs =>
  simp only [List.length_cons,List.take_succ_cons,List.mem_cons,not_or] at h
  have:(x == p) = false:=beq_eq_false_iff_ne.mpr h.1
  rw [List.zip_cons_cons,List.lookup_cons,this]
  exact ih vs h.2
theorem lookup_zip_mem {x:Str} {v:β}:∀ (ps:List Str) (vs:List β),ps.Nodup→(x,v)∈ps.zip vs→(ps.zip vs).lookup x = some v:=by
 intro ps
 induction ps with
 | nil=>intro vs _ h;exact absurd h List.not_mem_nil
 | cons p ps ih =>
  intro vs hn h
  induction vs using List.casesOn with
  | nil=>exact absurd h List.not_mem_nil
  | cons w vs =>
  rw [List.nodup_cons] at hn
  rw [List.zip_cons_cons] at h ⊢
  rw [List.lookup_cons]
  rcases List.mem_cons.mp h with q | q
  ·cases q;simp
  ·have hm:x∈ps:=(List.of_mem_zip q).1
   have:(x == p) = false:=beq_eq_false_iff_ne.mpr fun z=>hn.1 (z▸hm)
   rw [this]
   exact ih vs hn.2 q
theorem filterMap_self {f:Str→Option β}:∀ (bs:List (Str×β)),(∀ p∈bs,f p.1 = some p.2)→(bs.map (·.1)).filterMap (fun n=>(f n).map (n,·)) = bs:=by
 intro lq
 induction lq with
 | nil =>
  intro _
  exact rfl
 | cons hq bs ih =>
  obtain ⟨x,v⟩:=hq
  intro h
  rw [List.map_cons,List.filterMap_cons,h (x,v) (.head _)]
  dsimp only [Option.map_some]
  rw [ih fun p hp=>h p (.tail _ hp)]
end
noncomputable def laid (ps:List Str) (vs ds:List Value):List (Str×Value):=ps.zip (vs++ds.drop (ds.length - (ps.length - vs.length)))
theorem laid_fst {ps:List Str} {vs ds:List Value} (h1:vs.length≤ps.length) (h2:ps.length≤vs.length + ds.length):(laid ps vs ds).map (·.1) = ps:=by
 unfold laid
 rw [List.map_fst_zip]
 rw [List.length_append,List.length_drop,Nat.sub_sub_self (Nat.sub_le_iff_le_add'.mpr h2),Nat.add_sub_cancel' h1] <;> exact Nat.le_refl _
structure PlainArgs (p:Arguments):Prop where
 po:p.posonlyargs = []
 ko:p.kwonlyargs = []
 va:p.vararg = none
 kw:p.kwarg = none
theorem forIn_addD {k:Nat}:∀ (l:List (Str×Value)) (sl:List (Str×Value)),(forIn l sl fun (x:Str×Value) (r:List (Str×Value))=>(if (List.lookup x.1 r).isNone = true then pure (ForInStep.yield (r++[(x.1,x.2)])) else pure (ForInStep.yield r):Sem (ForInStep (List (Str×Value))))) = pure (l.foldl addD sl)
 | [],_=>rfl
 | p :: l,sl=>by
  rw [List.forIn_cons,List.foldl_cons]
  have:(if (List.lookup p.1 sl).isNone = true then pure (ForInStep.yield (sl++[(p.1,p.2)])) else pure (ForInStep.yield sl):Sem (ForInStep (List (Str×Value)))) = pure (ForInStep.yield (addD sl p)):=by
   unfold addD;split <;> rfl
  rw [this,pure_bind]
  exact forIn_addD (k:=k) l _
theorem binds_split {ps:List Str} {vs ds:List Value} (h1:vs.length≤ps.length) (h2:ps.length≤vs.length + ds.length) (h3:ds.length≤ps.length) :
  ∃ a b c d e,ps = a++(b++c)∧ds = d++e∧(a++b).length = vs.length∧b.length = d.length∧c.length = e.length :=
 ⟨(ps.take vs.length).take (ps.length - ds.length),(ps.take vs.length).drop (ps.length - ds.length),ps.drop vs.length,ds.take (ds.length - (ps.length - vs.length)),ds.drop (ds.length - (ps.length - vs.length)),
  by rw [← List.append_assoc,List.take_append_drop,List.take_append_drop],(List.take_append_drop ..).symm,by rw [List.take_append_drop,List.length_take,Nat.min_eq_left h1],
  by rw [List.length_drop,List.length_take,List.length_take,Nat.min_eq_left h1,Nat.min_eq_left (Nat.sub_le ..),Nat.sub_sub_right _ h3,Nat.sub_sub_right _ h1,Nat.add_comm],by rw [List.length_drop,List.length_drop,Nat.sub_sub_self (Nat.sub_le_iff_le_add'.mpr h2)]⟩
theorem binds_key {ps:List Str} {vs ds:List Value} (hn:ps.Nodup) (h1:vs.length≤ps.length) (h2:ps.length≤vs.length + ds.length) (h3:ds.length≤ps.length) :
  List.filter (fun n=>(List.lookup n (ps.zip vs)).isNone) (List.take (ps.length - ds.length) ps) = [] ∧
  List.filterMap (fun n=>Option.map (fun x=>(n,x)) (List.lookup n (List.foldl addD (ps.zip vs) ((ps.drop (ps.length - ds.length)).zip ds)))) ps = laid ps vs ds:=by
 have hf:=laid_fst h1 h2
 refine x5a5 (binds_split h1 h2 h3 :) fun a b c d e q5q q6q g1 g2 g3=>?_;subst q5q;subst q6q
 have el:(a++(b++c)).length - (d++e).length = a.length:=by rw [List.length_append,List.length_append,List.length_append,g2,g3,Nat.add_sub_cancel]
 have ez:(a++(b++c)).zip vs = (a++b).zip vs:=by
  rw [← List.append_assoc,← List.append_nil vs,List.zip_append g1,List.append_nil,List.zip_nil_right,List.append_nil]
 have ed:(d++e).drop ((d++e).length - ((a++(b++c)).length - vs.length)) = e:=by
  rw [show (d++e).length - ((a++(b++c)).length - vs.length) = d.length by rw [← g1,List.length_append,List.length_append,List.length_append,List.length_append,← Nat.add_assoc,Nat.add_sub_cancel_left,g3,Nat.add_sub_cancel],List.drop_left]
 have hl:laid (a++(b++c)) vs (d++e) = (a++b).zip vs++c.zip e:=by
  unfold laid;rw [ed,← List.append_assoc,List.zip_append g1]
 rw [hl] at hf ⊢
 rw [el,List.take_left,List.drop_left,ez,List.zip_append g2]
 rw [← List.append_assoc] at hn hf ⊢
 have hna:=List.nodup_append.mp hn
 refine ⟨List.filter_eq_nil_iff.mpr fun x hx=>?_,?_⟩
 ·have hm:x∈((a++b).zip vs).map (·.1):=by rw [List.map_fst_zip (Nat.le_of_eq g1)];exact List.mem_append_left _ hx
  obtain ⟨⟨y,v⟩,hm',rfl⟩:=List.mem_map.mp hm
  rw [lookup_zip_mem _ _ hna.1 hm']
  exact Bool.false_ne_true
 ·have:=filterMap_self (f:=fun n=>List.lookup n (List.foldl addD ((a++b).zip vs) (b.zip d++c.zip e))) ((a++b).zip vs++c.zip e) ?_
  ·rw [hf] at this;exact this
  ·rintro ⟨x,v⟩ hm
   rcases List.mem_append.mp hm with hm | hm
   ·exact lookup_foldD _ _ (lookup_zip_mem _ _ hna.1 hm)
   ·refine lookup_foldD_new _ _ (lookup_zip_none _ _ fun q=>hna.2.2 x (List.mem_of_mem_take q) x (List.of_mem_zip hm).1 rfl) ?_ (List.mem_append_right _ hm)
    rw [← List.zip_append g2,List.map_fst_zip (by rw [List.length_append,List.length_append,g2,g3];exact Nat.le.refl)]
    rw [List.append_assoc] at hn
    exact (List.nodup_append.mp hn).2.1
theorem binds_ok {s:Shared} {fd:FuncData} {ps:List Str} {vs ds:List Value} (hp:PlainArgs fd.params) (hps:fd.params.args.map (·.arg) = ps) (hn:ps.Nodup) (h1:vs.length≤ps.length) (h2:ps.length≤vs.length + ds.length)
  (h3:ds.length≤ps.length) (hd:∀ (M:Model) (A:Around) (E:Value→Shared→Prop) (Q:Option (Array Value)→Shared→Prop),(∀ x,(x.getD #[]).toList = ds→Q x s)→wpAny M A (seqItems? fd.defaults) Q E s):BindsTo s fd ⟨vs,[]⟩ (laid ps vs ds):=by
 intro M A E Q hq
 cases fd with
 | mk nm qn pa bo sc gl cl df kwd doc pm an cd ct bl =>
 cases pa with
 | mk po ar va ko kd kw dfs =>
 have e1:po = []:=hp.po
 have e2:ko = []:=hp.ko
 have e3:va = none:=hp.va
 have e4:kw = none:=hp.kw
 clear hp
 have hps:ar.map (·.arg) = ps:=hps
 subst e1;subst e2;subst e3;subst e4
 unfold bindArgs
 dsimp only [List.map_nil,List.nil_append]
 rw [hps]
 rw [List.forIn_nil]
 refine wpAny_bind (wpAny_pure ?_)
 dsimp only
 refine wpAny_bind (hd _ _ _ _ fun x hx=>?_)
 rw [hx]
 have e0:List.drop (ds.length - ps.length) ds = ds:=by rw [Nat.sub_eq_zero_of_le h3];rfl
 refine x0a2 (binds_key hn h1 h2 h3 :) fun hmiss key=>?_
 rw [e0,hmiss]
 rw [if_neg (by simp;lia),if_neg (by simp)]
 rw [forIn_addD (k:=0),pure_bind,List.map_nil,List.forIn_nil,pure_bind]
 dsimp only
 rw [if_neg (by simp),List.nil_append,List.append_nil]
 rw [key]
 exact wpAny_pure hq
end Mine
end
section
namespace Mine
theorem bindL_eq {kindOf:Str→Option NameKind}:∀ (bs:List (Str×Value)) (m:Str→Option Value) (y:Str),(bs.map (·.1)).Nodup→bindL kindOf bs m y = (if kindOf y = some .local then bs.lookup y else none).or (m y):=by
 intro lq
 induction lq with
 | nil =>
  intro m y _
  simp [bindL]
 | cons hq r ih =>
  obtain ⟨n,v⟩:=hq
  intro m y hn
  rw [List.map_cons,List.nodup_cons] at hn
  unfold bindL
  rw [ih _ y hn.2,List.lookup_cons]
  by_cases q:y = n
  ·subst q
   have hr:r.lookup y = none:=by
    induction e:r.lookup y using Option.casesOn with
    | none=>rfl
    | some w=>exact absurd (List.mem_map.mpr ⟨_,lookup_mem e,rfl⟩) hn.1
   rw [hr]
   by_cases k:kindOf y = some .local <;> simp [k]
  ·have:(y == n) = false:=beq_eq_false_iff_ne.mpr q
   rw [this]
   by_cases k:kindOf n = some .local <;> simp [k,q]
where
 lookup_mem {x:Str} {w:Value}:∀ {l:List (Str×Value)},l.lookup x = some w→(x,w)∈l
  | (y,u) :: l,h=>by
   rw [List.lookup_cons] at h
   induction q:x == y using Bool.casesOn with
   | true=>rw [q] at h;(refine jS h fun j=>?_;clear h;subst j);rw [beq_iff_eq.mp q];exact .head _
   | false=>rw [q] at h;exact .tail _ (lookup_mem h)
  | [],h=>by exact nS' h
theorem bindC_eq {kindOf:Str→Option NameKind}:∀ (bs:List (Str×Value)) (m:Str→Option Value) (y:Str),(bs.map (·.1)).Nodup→bindC kindOf bs m y = (if kindOf y = some .local then none else bs.lookup y).or (m y):=by
 intro lq
 induction lq with
 | nil =>
  intro m y _
  simp [bindC]
 | cons hq r ih =>
  obtain ⟨n,v⟩:=hq
  intro m y hn
  rw [List.map_cons,List.nodup_cons] at hn
  unfold bindC
  rw [ih _ y hn.2,List.lookup_cons]
  by_cases q:y = n
  ·subst q
   have hr:r.lookup y = none:=by
    induction e:r.lookup y using Option.casesOn with
    | none=>rfl
    | some w=>exact absurd (List.mem_map.mpr ⟨_,bindL_eq.lookup_mem e,rfl⟩) hn.1
   rw [hr]
   by_cases k:kindOf y = some .local <;> simp [k]
  ·have:(y == n) = false:=beq_eq_false_iff_ne.mpr q
   rw [this]
   by_cases k:kindOf n = some .local <;> simp [k,q]
theorem lk_locals {kinds:Kd} {x:Nat}:∀ (b:List (Nat×V)),lk (locals kinds b) x = match lk kinds x with
  | some .local=>lk b x
  | _=>none:=by
 intro lq
 induction lq with
 | nil =>
  show lk ([]:List (Nat×V)) x = _
  split <;> rfl
 | cons hq r ih =>
  obtain ⟨y,v⟩:=hq
  show lk (isLoc (lk kinds y) (y,v) (locals kinds r)) x = _
  rw [lk_cons]
  by_cases q:y = x
  ·subst q
   rw [if_pos rfl]
   unfold isLoc
   induction e:lk kinds y using Option.casesOn with
   | none =>
    dsimp only
    rw [ih,e]
   | some k =>
    induction k using NameKind.casesOn with
    | «local»=>dsimp only;rw [lk_cons,if_pos rfl]
    | _=>dsimp only;rw [ih,e]
  ·rw [if_neg q,← ih]
   unfold isLoc
   split
   ·split
    ·rw [lk_cons,if_neg q]
    ·rfl
   ·rfl
theorem IsKS.lookup {ρ:Va} {h:Heap} {x:Str}:∀ {m:List (Nat×V)} {kvs:List (Str×Value)},IsKS ρ h m kvs→match lk m (key x) with
  | some u=>∃ v,kvs.lookup x = some v∧IsV ρ h u v
  | none=>kvs.lookup x = none:=by
 intro m kvs q
 induction q with
 | nil=>rfl
 | @cons k n u v xs vs e hv r ih =>
  subst e
  rw [lk_cons,List.lookup_cons]
  by_cases q:k = x
  ·subst q;simp only [if_true,beq_self_eq_true];exact ⟨v,rfl,hv⟩
  ·rw [if_neg fun z=>q (key_inj z)]
   have:(x == k) = false:=beq_eq_false_iff_ne.mpr fun z=>q z.symm
   rw [this]
   exact ih
section
variable {C:SC} {T:Tk} {F:Fm} {ρ:Va} {σ:St} {s:Shared} {A:Around} {env:Env} {ks:Kd} {v:Ve} {Q E:Value→Shared→Prop}
theorem Rel.addHere {o:O} {a:Addr} (R:Rel C F ρ σ s) (ha:a ∉ ρ.adr) (hL:a≠F.L) (hf:∀ p∈F.fr,a≠p.1) (hh:∀ p∈F.held,a≠p.1) (h0:C.h0.get? a = none) (hb0:C.base.get? a = none) (hl:∃ o,s.heap.get? a = some o)
  (H:IsO C ⟨ρ.adr++[a],ρ.sym⟩ s.heap a o):Rel C F ⟨ρ.adr++[a],ρ.sym⟩ (σ.new o) s:=by
 have le:=le_more ρ a
 exact {
  bk:=R.bk
  bn:=fun n b e hz=>by
   by_cases q:n < ρ.adr.length
   ·rw [List.getElem?_append_left q] at e
    exact R.bn n b e hz
   ·rw [List.getElem?_append_right (by lia)] at e
    have:n - ρ.adr.length = 0:=by
     cases hd:n - ρ.adr.length with
     | zero=>rfl
     | succ k=>rw [hd] at e;simp at e
    rw [this] at e;simp at e;rw [← e];exact hb0
  keep:=R.keep
  fresh:=fun b hb=>by
   rcases List.mem_append.mp hb with hb | hb
   ·exact R.fresh b hb
   ·obtain rfl:=List.mem_singleton.mp hb;exact h0
  nodup:=by
   refine List.nodup_append.mpr ⟨R.nodup,List.nodup_cons.mpr ⟨by simp,List.nodup_nil⟩,fun x hx y hy q=>?_⟩
   obtain rfl:=List.mem_singleton.mp hy
   subst q
   exact ha hx
  live:=fun b hb=>by
   rcases List.mem_append.mp hb with hb | hb
   ·exact R.live b hb
   ·obtain rfl:=List.mem_singleton.mp hb;exact hl
  nxt:=by show σ.nxt + 1 = _;rw [R.nxt];simp
  syn:=R.syn
  led:=fun n o' e=>by
   rw [St.at_new] at e
   by_cases q:σ.nxt = n
   ·rw [if_pos q] at e;(refine jS e fun j=>?_;clear e;subst j)
    refine ⟨a,?_,H⟩
    rw [← q,R.nxt];simp
   ·rw [if_neg q] at e
    refine x1a2 (R.led n o' e :) fun b p r=>?_
    exact ⟨b,getpre le.adr p,r.mono le (TK.refl _) fun o e=>e⟩
  cur:=y12 (R.cur) fun x mm n m=>⟨x.more (Ne.symm hL),mm,n,m.mono le (TK.refl _)⟩
  fr:=fun p hp=>y22 (R.fr p hp) fun x y mm n m=>⟨⟨x.more (Ne.symm (hf p hp)),y⟩,mm,n,m.mono le (TK.refl _)⟩
  held:=fun p hp=>x0a2 (R.held p hp) fun x y=>⟨x.more (Ne.symm (hh p hp)),y⟩
  tab:=R.tab
  gens:=R.gens
  os:=R.os
  frames:=R.frames
  fsL:=R.fsL }
set_option tactic.hygienic true in
theorem lay_ok {b:List (Nat×V)} {cm:Str→Option Value}:∀ (names:List (Str×NameKind)) (ρ:Va) (σ:St) (n:Nat) (acc:List (Str×Addr)) (cs:List (Nat×Nat)) (κ:List (Nat×Nat)→St→Bool),
  lay (List.rec [] (fun p _ ih=>(key p.1,p.2) :: ih) names:Kd) b cs σ κ = true→Rel C F ρ σ s →
  (∀ a∈ρ.adr,a < n)→F.L < n→(∀ p∈F.fr,p.1 < n)→(∀ p∈F.held,p.1 < n)→(∀ a,n≤a→C.h0.get? a = none)→(∀ a,n≤a→C.base.get? a = none) →
  (∀ x c,(x,c)∈cellsFrom n names acc→(x,c) ∉ acc→s.heap.IsCell c (cm x))→(∀ x c,(x,c)∈acc→c < n) →
  (∀ x,(x,NameKind.cell)∈names→match lk b (key x) with | some u=>∃ vv,cm x = some vv∧IsV ρ s.heap u vv | none=>True) →
  (∀ x k,lk cs (key x) = some k→∃ c,acc.lookup x = some c∧ρ.adr[k]? = some c) →
  ∃ cs' σ' ρ',κ cs' σ' = true∧Rel C F ρ' σ' s∧ρ.le ρ'∧σ'.cur = σ.cur∧(∀ a∈ρ'.adr,a∈ρ.adr∨n≤a)∧∀ x k,lk cs' (key x) = some k→∃ c,(cellsFrom n names acc).lookup x = some c∧ρ'.adr[k]? = some c:=by
 intro lq
 induction lq with
 | nil =>
  intro ρ σ n acc cs κ h R _ _ _ _ _ _ _ _ _ hm
  exact m3a6 cs σ ρ h R (Va.le.refl _) rfl (fun _ q=>.inl q) hm
 | cons hq names ih =>
  obtain ⟨y,k⟩:=hq
  intro ρ σ n acc cs κ h R ha hL hf hh h0 hb0 hc hacc hb hm
  by_cases hk:k = .cell
  ·subst hk
   have h':lay (List.rec [] (fun p _ ih=>(key p.1,p.2) :: ih) names:Kd) b ((key y,σ.nxt) :: cs) (σ.new (.cell (lk b (key y)))) κ = true:=h
   have hcf:cellsFrom n ((y,NameKind.cell) :: names) acc = cellsFrom (n + 1) names ((y,n) :: acc):=by rw [cellsFrom];simp
   rw [hcf] at hc ⊢
   have hin:∀ (l:List (Str×NameKind)) (m:Nat) (ac:List (Str×Addr)) (q:Str×Addr),q∈ac→q∈cellsFrom m l ac:=by
    intro l
    induction l with
    | nil=>intro m ac q hq;exact hq
    | cons p l ih =>
     intro m ac q hq
     obtain ⟨z,kk⟩:=p
     rw [cellsFrom]
     split
     ·exact ih _ _ _ (.tail _ hq)
     ·exact ih _ _ _ hq
   have hcell:s.heap.IsCell n (cm y):=hc y n (hin _ _ _ _ (.head _)) fun q=>Nat.lt_irrefl _ (hacc y n q)
   have R1:=R.addHere (o:=.cell (lk b (key y))) (a:=n) (fun q=>Nat.lt_irrefl _ (ha n q)) (Nat.ne_of_gt hL) (fun p hp=>Nat.ne_of_gt (hf p hp)) (fun p hp=>Nat.ne_of_gt (hh p hp)) (h0 n (Nat.le_refl _)) (hb0 n (Nat.le_refl _))
    (let ⟨o,e,_⟩:=hcell;⟨o,e⟩) ⟨cm y,hcell,fun x e=>by
     have:=hb y (.head _)
     rw [e] at this
     refine x1a2 this fun vv e1 e2=>?_;clear this
     exact ⟨vv,e1,e2.mono (le_more _ _) (TK.refl _)⟩⟩
   refine x3a6 (ih _ _ (n + 1) ((y,n) :: acc) ((key y,σ.nxt) :: cs) κ h' R1
    (fun a hm=>(List.mem_append.mp hm).elim (fun q=>Nat.lt_succ_of_lt (ha a q)) fun q=>by rw [List.mem_singleton.mp q];exact Nat.lt_succ_self _)
    (Nat.lt_succ_of_lt hL) (fun p hp=>Nat.lt_succ_of_lt (hf p hp)) (fun p hp=>Nat.lt_succ_of_lt (hh p hp)) (fun a q=>h0 a (by lia)) (fun a q=>hb0 a (by lia))
    (fun x c h1 h2=>hc x c h1 fun q=>h2 (.tail _ q))
    (fun x c hm=>by
     rcases List.mem_cons.mp hm with q | q
     ·cases q;exact Nat.lt_succ_self _
     ·exact Nat.lt_succ_of_lt (hacc x c q))
    (fun x hx=>by
     have:=hb x (.tail _ hx)
     split at this
     ·obtain ⟨vv,e1,e2⟩:=this;exact ⟨vv,e1,e2.mono (le_more _ _) (TK.refl _)⟩
     ·trivial)
    (fun x k e=>by
     rw [lk_cons] at e
     rw [List.lookup_cons]
     split at e
     ·rename_i q
      obtain rfl:=key_inj q
      cases e
      rw [beq_self_eq_true]
      exact ⟨n,rfl,by rw [R.nxt];simp⟩
     ·rename_i q
      have:(x == y) = false:=beq_eq_false_iff_ne.mpr fun z=>q (by rw [z])
      rw [this]
      obtain ⟨c,e1,e2⟩:=hm x k e
      exact ⟨c,e1,getpre (le_more _ _).adr e2⟩) :) fun cs' σ' ρ' g1 g2 g3 g4 g6 g5=>?_
   refine m3a6 cs' σ' ρ' g1 g2 ((le_more _ _).trans g3) g4 (fun a hq=>?_) g5
   rcases g6 a hq with q | q
   ·rcases List.mem_append.mp q with q | q
    ·exact .inl q
    ·rw [List.mem_singleton.mp q];exact .inr (Nat.le_refl _)
   ·exact .inr (by lia)
  ·have h':lay (List.rec [] (fun p _ ih=>(key p.1,p.2) :: ih) names:Kd) b cs σ κ = true:=by induction k using NameKind.casesOn <;> first | exact h | exact absurd rfl hk
   have hcf:cellsFrom n ((y,k) :: names) acc = cellsFrom n names acc:=by
    rw [cellsFrom,if_neg];simpa using hk
   rw [hcf] at hc ⊢
   exact ih ρ σ n acc cs κ h' R ha hL hf hh h0 hb0 hc hacc (fun x hx=>hb x (.tail _ hx)) hm
end
end Mine
end
section
namespace Mine
inductive IsFl (ρ:Va) (h:Heap):Fl→Flow→Prop
 | next:IsFl ρ h .next .next
 | ret {u v}:IsV ρ h u v→IsFl ρ h (.ret u) (.ret v)
 | cont:IsFl ρ h .cont .cont
noncomputable def GoS (C:SC) (F:Fm) (ρ:Va) (h:Heap) (κ:KS) (Q:Flow→Shared→Prop):Prop :=
 ∀ ρ' σ' s' fl f,κ fl σ' = true→Next C F ρ h ρ' σ' s'→IsFl ρ' s'.heap fl f→Q f s'
theorem GoS.next {C:SC} {F:Fm} {ρ ρ':Va} {h:Heap} {σ':St} {s':Shared} {κ:KS} {Q:Flow→Shared→Prop} (H:GoS C F ρ h κ Q) (N:Next C F ρ h ρ' σ' s'):GoS C F ρ' s'.heap κ Q:=fun _ _ _ _ _ a b c=>H _ _ _ _ _ a (N.trans b) c
structure Top1 (F:Fm) (env:Env):Prop where
 mine:∃ outer,F.fs = env :: outer
 frame:env.frame = some F.L
noncomputable def WS (C:SC) (ks:Kd) (f:Ve→St→KS→KX→Bool) (m:Env→Sem Flow):Prop :=
 ∀ v σ κ ε,f v σ κ ε = true→∀ A F env ρ s Q E,EnvOK C A F env ks v ρ→Top1 F env→Rel C F ρ σ s→GoS C F ρ s.heap κ Q→GoE C F ρ s.heap ε E→wpAny (model PW C.w) A (m env) Q E s
noncomputable def LeaveOK (C:SC):Prop:=∀ A F env ρ σ s u e Q E,A.frames = some F.fs→Top1 F env→Rel C F ρ σ s→ExcIs C F ρ σ s.heap u e →
 (∀ s',TK s.heap s'.heap→Rel C F ρ σ s'→(∀ F',F'.fr = F.fr.tail→F'.held = F.held→F.fr.head?.map (·.1) = some F'.L→ExcIs C F' ρ σ s'.heap u e)→Q () s')→wpAny (model PW C.w) A (leaving env e) Q E s
structure FnOK (C:SC) (T:Tk) (fn:Fn) (a:Addr) (fo:Obj) (fd:FuncData) (body:List PySem.Stmt):Prop where
 at_:C.K.lookup a = some fo
 data:fo.data = .func fd
 bodyE:fd.body = .stmts body
 glob:fd.globals = mainGlobals
 blt:fd.builtins = builtinsNs
 clo:fd.closure = []
 scope:okF fd.scope = true
 code:∃ c o vs t,fd.code = .ref c∧C.K.lookup c = some o∧o.data = .fields vs∧vs[1]? = some (.str fd.qualname t)
 args:PlainArgs fd.params
 nodup:(fd.params.args.map (·.arg)).Nodup
 pars:fn.params = (fd.params.args.map (·.arg)).map key
 dfl:(fd.defaults = .none∧fn.dflts = [])∨∃ t o ds n,fd.defaults = .ref t∧C.K.lookup t = some o∧o.data = .seq ds n∧∀ ρ h,IsVs ρ h fn.dflts ds.toList
 dfn:fn.dflts.length≤fn.params.length
 kinds:fn.kinds = kindsOf fd.scope
 cellsNd:((cellsFrom 0 fd.scope.names []).map (·.1)).Nodup
 parK:∀ x∈fd.params.args.map (·.arg),fd.scope.names.lookup x = some .local∨(fd.scope.names.lookup x = some .cell∧((cellsFrom 0 fd.scope.names []).lookup x).isSome = true)
 cellK:∀ p∈fd.scope.names,p.2 = .cell→fd.scope.names.lookup p.1 = some .cell
 bodyS:fn.body = ⟨css (compS T (kindsOf fd.scope) 40) body⟩
section
variable {C:SC} {T:Tk} {F:Fm} {ρ:Va} {σ:St} {s:Shared} {A:Around} {env:Env} {ks:Kd} {v:Ve} {Q E:Value→Shared→Prop}
theorem Rel.code (R:Rel C F ρ σ s) (G:Gr C T) {fd:FuncData} (h:∃ c o vs t,fd.code = .ref c∧C.K.lookup c = some o∧o.data = .fields vs∧vs[1]? = some (.str fd.qualname t)):s.heap.CodeRec fd.code fd.qualname :=
 x4a4 h fun c o vs t e k d q=>⟨c,o,vs,t,e,G.Xs R _ _ k,d,q⟩
theorem bindP_ok {h:Heap}:∀ (ps:List Str) (fds:List V) (us:List V) (b:List (Nat×V)),bindP (ps.map key) fds us = some b→∀ (vs ds:List Value),IsVs ρ h us vs→IsVs ρ h fds ds→fds.length ≥ 0 →
  us.length≤ps.length∧(us.length < ps.length→ps.length≤us.length + fds.length)∧IsKS ρ h b (ps.zip (vs++ds.drop (ds.length - (ps.length - vs.length)))) :=by
 intro lq
 induction lq with
 | nil =>
  intro fds us b hb vs ds hu hd _
  induction us using List.casesOn with
  | nil=>(refine jS hb fun j=>?_;clear hb;subst j);exact ⟨Nat.le_refl _,fun q=>absurd q (Nat.lt_irrefl _),by simpa using IsKS.nil⟩
  | cons _ _=>exact nS' hb
 | cons p ps ih =>
  intro fds us b hb vs ds hu hd _
  induction hu using IsVs.casesOn with
  | @cons u w us ws hu hr =>
   have hb':consP (key p) u (bindP (ps.map key) fds us) = some b:=hb
   induction e:bindP (ps.map key) fds us using Option.casesOn with
   | none=>rw [e] at hb';exact nS' hb'
   | some b' =>
    rw [e] at hb'
    (refine jS hb' fun j=>?_;clear hb';subst j)
    refine x0a3 (ih fds us b' e ws ds hr hd (Nat.zero_le _) :) fun h1 h2 h3=>?_
    refine ⟨by simpa using h1,fun q=>by have:=h2 (by simpa using q);simp;lia,?_⟩
    have e2:(p :: ps).length - (w :: ws).length = ps.length - ws.length:=by simp
    rw [e2,List.cons_append,List.zip_cons_cons]
    exact .cons rfl hu h3
  | nil =>
   have hb':(match Nat.ble (len (ps.map key) + 1) (len fds) with
    | true=>(match nth fds (len fds - (len (ps.map key) + 1)) with | some u=>consP (key p) u (bindP (ps.map key) fds []) | none=>none)
    | false=>none) = some b:=hb
   induction eb:Nat.ble (len (ps.map key) + 1) (len fds) using Bool.casesOn with
   | false=>rw [eb] at hb';exact nS' hb'
   | true =>
    rw [eb] at hb'
    dsimp only at hb'
    have hle:=Nat.le_of_ble_eq_true eb
    rw [len_eq,len_eq,List.length_map] at hle
    rw [len_eq,len_eq,List.length_map,nth_eq] at hb'
    induction en:fds[fds.length - (ps.length + 1)]? using Option.casesOn with
    | none=>rw [en] at hb';exact nS' hb'
    | some u =>
     rw [en] at hb'
     dsimp only at hb'
     induction e:bindP (ps.map key) fds [] using Option.casesOn with
     | none=>rw [e] at hb';exact nS' hb'
     | some b' =>
      rw [e] at hb'
      (refine jS hb' fun j=>?_;clear hb';subst j)
      refine x0a3 (ih fds [] b' e [] ds .nil hd (Nat.zero_le _) :) fun h1 h2 h3=>?_
      refine ⟨Nat.zero_le _,fun _=>by simp;lia,?_⟩
      refine x1a2 (hd.get en :) fun w hw hi=>?_
      have hl:=hd.length
      simp only [List.nil_append,List.length_nil,Nat.sub_zero,List.length_cons] at h3 ⊢
      rw [hl] at hw hle
      have hlt:ds.length - (ps.length + 1) < ds.length:=by lia
      rw [List.drop_eq_getElem_cons hlt]
      have hw':ds[ds.length - (ps.length + 1)]'hlt = w:=Option.some.inj ((List.getElem?_eq_getElem hlt).symm.trans hw)
      rw [hw',List.zip_cons_cons,show ds.length - (ps.length + 1) + 1 = ds.length - ps.length by lia]
      exact .cons rfl hi h3
theorem Rel.lt (R:Rel C F ρ σ s):(∀ a∈ρ.adr,a < s.heap.objs.size)∧F.L < s.heap.objs.size∧(∀ p∈F.fr,p.1 < s.heap.objs.size)∧(∀ p∈F.held,p.1 < s.heap.objs.size) :=
 ⟨fun a ha=>x1a1 (R.live a ha) fun _ e=>Heap.lt_size e,x1a1 (R.cur.1.live) fun _ e=>Heap.lt_size e,fun p hp=>x1a1 ((R.fr p hp).1.1.live) fun _ e=>Heap.lt_size e,fun p hp=>x1a1 ((R.held p hp).1.live) fun _ e=>Heap.lt_size e⟩
theorem okF_ok {sc:Scope} (h:okF sc = true):sc.kind = .function∧sc.isGenerator = false∧sc.isCoroutine = false:=by
 unfold okF at h
 induction e1:isFun sc.kind using Bool.casesOn with
 | false=>rw [e1] at h;exact ft' h
 | true =>
  rw [e1] at h
  dsimp only at h
  induction e2:sc.isGenerator using Bool.casesOn with
  | true=>rw [e2] at h;exact ft' h
  | false =>
   rw [e2] at h
   dsimp only at h
   induction e3:sc.isCoroutine using Bool.casesOn with
   | true=>rw [e3] at h;exact ft' h
   | false =>
    refine ⟨?_,rfl,rfl⟩
    cases e:sc.kind <;> rw [e] at e1 <;> first | rfl | exact ft' e1
theorem Rel.above (R:Rel C F ρ σ s):(∀ a,s.heap.objs.size≤a→C.h0.get? a = none)∧∀ a,s.heap.objs.size≤a→C.base.get? a = none:=by
 constructor
 ·intro a ha
  exact R.new_off (Heap.get?_none_of_le ha)
 ·intro a ha
  induction q:C.base.get? a using Option.casesOn with
  | none=>rfl
  | some o=>exact absurd (Heap.lt_size (R.bk a o q)) (Nat.not_lt.mpr ha)
noncomputable def inner (F:Fm) (σ:St) (env:Env) (L:Addr):Fm:=⟨env :: F.fs,L,(F.L,σ.cur) :: F.fr,F.held⟩
theorem enter_ok (G:Gr C T) {fn:Fn} {a:Addr} {fo:Obj} {fd:FuncData} {body:List PySem.Stmt} (K:FnOK C T fn a fo fd body) {us:List V} {vs:List Value} {b:List (Nat×V)} (hb:bindP fn.params fn.dflts us = some b) (hu:IsVs ρ s.heap us vs) (R:Rel C F ρ σ s)
  {κ:List (Nat×Nat)→St→Bool} (hl:lay fn.kinds b [] σ κ = true) {QQ:Env→Shared→Prop}
  (hQ:∀ env cs σ1 ρ1 s1,κ cs σ1 = true→env = envX fd.qualname fd.scope s.heap.objs.size a fd.code (cellsFrom (s.heap.objs.size + 1) fd.scope.names [])→Rel C (inner F σ env s.heap.objs.size) ρ1 { σ1 with cur:=locals fn.kinds b } s1→ρ.le ρ1→TK s.heap s1.heap →
   (∀ x n,lk cs (key x) = some n→∃ c,env.cells.lookup x = some c∧ρ1.adr[n]? = some c)→QQ env s1) :
  wpAny (model PW C.w) A (bindArgs fd ⟨vs,[]⟩) (fun binds s₁=>wpAny (model PW C.w) A (newFunctionEnv fd.scope fd.globals fd.closure binds (fd.qualname++".<locals>.") (some a) fd.code none fd.builtins) QQ E s₁) E s:=by
 refine x0a3 (okF_ok K.scope :) fun hk hgen hco=>?_
 obtain ⟨ds,hds,hseq⟩:∃ ds:List Value,IsVs ρ s.heap fn.dflts ds∧∀ (M:Model) (A:Around) (E:Value→Shared→Prop) (Q:Option (Array Value)→Shared→Prop),(∀ x,(x.getD #[]).toList = ds→Q x s)→wpAny M A (seqItems? fd.defaults) Q E s:=by
  rcases K.dfl with ⟨e1,e2⟩ | ⟨t,o,ds,n,e1,e2,e3,e4⟩
  ·refine ⟨[],by rw [e2];exact .nil,fun M A E Q h=>?_⟩
   rw [e1]
   exact wpAny_pure (h none rfl)
  ·refine ⟨ds.toList,e4 _ _,fun M A E Q h=>?_⟩
   rw [e1]
   exact wpAny_seqItems (G.Xs R _ _ e2) e3 (h (some ds) rfl)
 rw [K.pars] at hb
 refine x0a3 (bindP_ok _ _ _ _ hb vs ds hu hds (Nat.zero_le _) :) fun b1 b2 b3=>?_
 rw [hu.length] at b1 b2
 rw [hds.length] at b2
 have hdn:=K.dfn
 rw [K.pars,List.length_map,hds.length] at hdn
 have b2':(fd.params.args.map (·.arg)).length≤vs.length + ds.length:=by
  by_cases q:vs.length < (fd.params.args.map (·.arg)).length
  ·exact b2 q
  ·lia
 refine binds_ok K.args rfl K.nodup b1 b2' hdn hseq _ _ _ _ ?_
 have hfst:=laid_fst b1 b2'
 have hnd:((laid (fd.params.args.map (·.arg)) vs ds).map (·.1)).Nodup:=by rw [hfst];exact K.nodup
 have b3':IsKS ρ s.heap b (laid (fd.params.args.map (·.arg)) vs ds):=b3
 generalize hbs:laid (fd.params.args.map (·.arg)) vs ds = bs at *
 rw [K.clo]
 have cn:∀ m,(cellsFrom m fd.scope.names []).map (·.1) = (cellsFrom 0 fd.scope.names []).map (·.1):=fun m=>cellsFrom_names fd.scope.names m 0 [] [] rfl
 have lk_some:∀ {l l':List (Str×Addr)} {x:Str},l.map (·.1) = l'.map (·.1)→(l.lookup x).isSome = (l'.lookup x).isSome:=by
  intro l
  induction l with
  | nil=>intro l' x h;induction l' using List.casesOn with
   | nil=>rfl
   | cons _ _=>cases h
  | cons p r ih =>
   intro l' x h
   induction l' using List.casesOn with
   | nil=>cases h
   | cons q r' =>
    obtain ⟨y,w⟩:=p
    obtain ⟨z,u⟩:=q
    injection h with h1 h2
    dsimp only at h1
    subst h1
    rw [List.lookup_cons,List.lookup_cons]
    induction x == y using Bool.casesOn with
    | true=>rfl
    | false=>exact ih h2
 refine wpAny_newFunctionEnv_cells hk (fun x hx=>?_) fun env' he s' x=>?_
 ·have:x.1∈fd.params.args.map (·.arg):=by rw [← hfst];exact List.mem_map.mpr ⟨x,hx,rfl⟩
  rcases K.parK _ this with q | ⟨q,q2⟩
  ·exact .inl q
  ·exact .inr ⟨q,by rw [lk_some (cn _)];exact q2⟩
 ·refine x2a2 (x.done :) fun h' tk hs' hkeep=>?_
  have hkeep':∀ b o,s.heap.get? b = some o→s'.heap.get? b = some o:=by subst hs';exact hkeep
  have R1:Rel C F ρ σ s':=R.grow hkeep' (by subst hs';rfl) (by subst hs';rfl)
  have he':env' = envX fd.qualname fd.scope s.heap.objs.size a fd.code (cellsFrom (s.heap.objs.size + 1) fd.scope.names []):=by
   rw [he,K.glob,K.blt];rfl
  have hkof:∀ y,env'.kindOf y = fd.scope.names.lookup y:=fun y=>by rw [he'];rfl
  have hcells:env'.cells = cellsFrom (s.heap.objs.size + 1) fd.scope.names []:=by rw [he']
  have hloc:env'.locals = s.heap.objs.size:=by rw [he']
  refine x0a4 (R.lt :) fun l1 l2 l3 l4=>?_
  refine x0a2 (R.above :) fun a1 a2=>?_
  rw [K.kinds] at hl
  have hnd2:((cellsFrom (s.heap.objs.size + 1) fd.scope.names []).map (·.1)).Nodup:=by rw [cn];exact K.cellsNd
  refine x3a6 (lay_ok (s:=s') (cm:=bindC env'.kindOf bs fun _=>none) fd.scope.names ρ σ (s.heap.objs.size + 1) [] [] κ hl R1
   (fun a ha=>Nat.lt_succ_of_lt (l1 a ha)) (Nat.lt_succ_of_lt l2) (fun p hp=>Nat.lt_succ_of_lt (l3 p hp)) (fun p hp=>Nat.lt_succ_of_lt (l4 p hp)) (fun a q=>a1 a (by lia)) (fun a q=>a2 a (by lia))
   (fun y c hm _=>x.cell y c (by rw [hcells];exact lookup_of_mem_nodup hnd2 hm))
   (fun _ _ q=>by cases q)
   (fun y hy=>by
    have hkc:=K.cellK _ hy rfl
    have:=(b3'.mono (Va.le.refl _) (TK.keeps hkeep')).lookup (x:=y)
    rw [bindC_eq _ _ _ hnd,hkof,hkc]
    induction e:lk b (key y) using Option.casesOn with
    | none=>trivial
    | some u =>
     rw [e] at this
     obtain ⟨vv,e1,e2⟩:=this
     exact ⟨vv,by simp [e1],e2⟩)
   (fun _ _ q=>by cases q) :) fun cs σ1 ρ1 g1 g2 g3 g4 g5 g6=>?_
  have hL':s.heap.objs.size ∉ ρ1.adr:=fun q=>by
   rcases g5 _ q with q | q
   ·exact Nat.lt_irrefl _ (l1 _ q)
   ·lia
  have hns:=x.toInCall.ns
  rw [hloc] at hns
  have hlive:∃ o,s'.heap.get? s.heap.objs.size = some o:=x3a2 (hns) fun o _ _ e _=>⟨o,e⟩
  refine hQ env' cs σ1 ρ1 s' g1 he' ?_ g3 (TK.keeps hkeep') (fun y n e=>by rw [hcells];exact g6 y n e)
  exact {
   bk:=g2.bk
   bn:=g2.bn
   keep:=g2.keep
   fresh:=g2.fresh
   nodup:=g2.nodup
   live:=g2.live
   nxt:=g2.nxt
   syn:=g2.syn
   led:=g2.led
   cur:=by
    refine ⟨⟨hL',a1 _ (Nat.le_refl _),hlive,a2 _ (Nat.le_refl _)⟩,_,hns,fun y u e0=>?_⟩
    have e0:lk (locals fn.kinds b) (key y) = some u:=e0
    rw [lk_locals,K.kinds,lk_kindsOf] at e0
    rw [bindL_eq _ _ _ hnd,hkof]
    have:=(b3'.mono g3 (TK.keeps hkeep')).lookup (x:=y)
    induction e:fd.scope.names.lookup y using Option.casesOn with
    | none=>rw [e] at e0;exact nS' e0
    | some k =>
     rw [e] at e0
     induction k using NameKind.casesOn with
     | «local» =>
      dsimp only at e0
      rw [e0] at this
      refine x1a2 this fun vv e3 e4=>?_;clear this
      exact ⟨vv,by simp [e3],e4⟩
     | _=>exact nS' e0
   fr:=fun p hp=>by
    rcases List.mem_cons.mp hp with rfl | hp
    ·refine ⟨⟨g2.cur.1,Nat.ne_of_lt l2⟩,?_⟩
     refine x1a2 (g2.cur.2 :) fun mm n m=>?_
     exact ⟨mm,n,g4▸m⟩
    ·exact ⟨⟨(g2.fr p hp).1.1,Nat.ne_of_lt (l3 p hp)⟩,(g2.fr p hp).2⟩
   held:=fun p hp=>by
    refine x0a4 (g2.held p hp :) fun q1 q2 q3 q4=>?_
    refine ⟨q1,Nat.ne_of_lt (l4 p hp),fun q hq=>?_,q4⟩
    rcases List.mem_cons.mp hq with rfl | hq
    ·exact q2
    ·exact q3 q hq
   tab:=g2.tab
   gens:=g2.gens
   os:=g2.os
   frames:=by
    refine x3a3 hns fun o es ep e d _=>?_;clear hns
    refine ⟨by rw [he'];show fd.scope.kind≠_;rw [hk];decide,⟨s.heap.objs.size,o,by rw [he'],a1 _ (Nat.le_refl _),e,fun vs q=>by rw [d] at q;cases q⟩,g2.frames⟩
   fsL:=fun e2 he2 b2 hf2=>by
    rcases List.mem_cons.mp he2 with rfl | he2
    ·rw [he'] at hf2
     exact .inl (Option.some.inj hf2).symm
    ·rcases g2.fsL e2 he2 b2 hf2 with q | ⟨p,hp,q⟩
     ·exact .inr ⟨_,.head _,q⟩
     ·exact .inr ⟨p,.tail _ hp,q⟩ }
end
end Mine
end
section
namespace Mine
section
variable {C:SC} {T:Tk} {F:Fm} {ρ:Va} {σ:St} {s:Shared} {A:Around} {env:Env} {ks:Kd} {v:Ve} {Q E:Value→Shared→Prop}
theorem Rel.leave {env:Env} {L:Addr} {ρ':Va} {σ':St} {s':Shared} (R:Rel C F ρ σ s) (R':Rel C (inner F σ env L) ρ' σ' s'):Rel C F ρ' { σ' with cur:=σ.cur } s' where
 bk:=R'.bk
 bn:=R'.bn
 keep:=R'.keep
 fresh:=R'.fresh
 nodup:=R'.nodup
 live:=R'.live
 nxt:=R'.nxt
 syn:=R'.syn
 led:=R'.led
 cur:=let h:=R'.fr _ (.head _);⟨h.1.1,h.2⟩
 fr:=fun p hp=>let h:=R'.fr p (.tail _ hp);⟨⟨h.1.1,(R.fr p hp).1.2⟩,h.2⟩
 held:=fun p hp=>let h:=R'.held p hp;⟨h.1,h.2.2.1 _ (.head _),fun q hq=>h.2.2.1 q (.tail _ hq),h.2.2.2⟩
 tab:=R'.tab
 gens:=R'.gens
 os:=R'.os
 frames:=R'.frames.2.2
 fsL:=R.fsL
theorem Next.leave {env:Env} {L:Addr} {ρ1 ρ':Va} {σ':St} {s1 s':Shared} (R:Rel C F ρ σ s) (h1:ρ.le ρ1) (h2:TK s.heap s1.heap) (N:Next C (inner F σ env L) ρ1 s1.heap ρ' σ' s'):Next C F ρ s.heap ρ' { σ' with cur:=σ.cur } s' :=
 ⟨h1.trans N.pre,h2.trans N.tk,R.leave N.rel⟩
theorem callFn_ok (G:Gr C T) (hL:LeaveOK C) {fn:Fn} {a:Addr} {fo:Obj} {fd:FuncData} {body:List PySem.Stmt} (K:FnOK C T fn a fo fd body) {r:Rc} (hbody:WS C (kindsOf fd.scope) (fun v σ κ ε=>fn.body.s r v σ κ ε) (execs body))
  {d:Nat} {us:List V} {args:List Value} {κ ε:KX} (h:callFn r fn d us σ κ ε = true) (h1:1≤d) (h2:d≤50) (Ar:Arnd A F d) (R:Rel C F ρ σ s) (hu:IsVs ρ s.heap us args) (GQ:GoQ C F ρ s.heap κ Q) (GE:GoE C F ρ s.heap ε E) :
  codeAny (model PW C.w) A (.call (.ref a) ⟨args,[]⟩) (CallR Q E) s:=by
 refine x0a3 (okF_ok K.scope :) fun hk hgen hco=>?_
 induction eb:bindP fn.params fn.dflts us using Option.casesOn with
 | none=>simp only [callFn,eb] at h;exact ft' h
 | some b =>
  have h':lay fn.kinds b [] σ (fun cs σ1=>fn.body.s r ⟨cs,d + 1⟩ { σ1 with cur:=locals fn.kinds b } (backF σ κ) (back σ ε)) = true:=by
   have:=h;simp only [callFn,eb] at this;exact this
  have hroom:A.depth < recursionLimit:=by
   have:=Ar.depth
   have e1:claimMargin = 300:=rfl
   have e2:recursionLimit = 1000:=rfl
   lia
  refine codeAny_call_function hroom (G.Xs R _ _ K.at_) K.data hco hgen K.bodyE (R.code G K.code) ?_
  refine enter_ok G K eb hu R h' fun env cs σ1 ρ1 s1 hκ he R1 hp htk hm=>?_
  refine ⟨G.lims R1,codeAny_func ?_⟩
  have hqual:env.scope = fd.scope:=by rw [he]
  have H:EnvOK C (A.deeper env) (inner F σ env s.heap.objs.size) env (kindsOf fd.scope) ⟨cs,d + 1⟩ ρ1:={
   glob:=by rw [he];exact ⟨rfl,rfl⟩
   loc:=by rw [he];rfl
   kind:=by rw [hqual];exact hk
   ks:=by rw [hqual]
   cells:=hm
   frames:=by show A.frames.map _ = _;rw [Ar.frames];rfl
   hand:=Ar.hand
   depth:=by show A.depth + 1≤2 + claimMargin + 3 * (d + 1);have:=Ar.depth;lia
   units:=by show A.units + 3≤20 + 20 * (d + 1);have:=Ar.units;lia
   dep:=by show d + 1≤60;lia
   law:=fun q=>by have:d + 1 = 1:=q;lia }
  have T1:Top1 (inner F σ env s.heap.objs.size) env:=⟨⟨F.fs,rfl⟩,by rw [he];rfl⟩
  refine hbody ⟨cs,d + 1⟩ _ _ _ hκ (A.deeper env) (inner F σ env s.heap.objs.size) env ρ1 s1 _ _ H T1 R1 ?_ ?_
  ·intro ρ' σ' s' fl f hfl N hf
   have N':=Next.leave R hp htk N
   cases hf with
   | next=>exact GQ _ _ _ _ _ hfl N' .none
   | ret hv=>exact GQ _ _ _ _ _ hfl N' hv
   | cont=>exact GQ _ _ _ _ _ hfl N' .none
  ·intro ρ' σ' s' u e hε N hx
   refine hL (A.deeper env) (inner F σ env s.heap.objs.size) env ρ' σ' s' u e _ _ H.frames T1 N.rel hx fun s'' tk R'' hx''=>?_
   have N'':Next C (inner F σ env s.heap.objs.size) ρ1 s1.heap ρ' σ' s'':=⟨N.pre,N.tk.trans tk,R''⟩
   exact GE _ _ _ _ _ hε (Next.leave R hp htk N'') (hx'' F rfl rfl rfl)
end
end Mine
end
section
namespace Mine
theorem putName_at {h:Heap} {d:Addr} {o:Obj} {es:Array DictEntry} {n:Nat} {mm:Str→Option Value} {name:Str} {hsh:Int} {tk:Tok} {v:Value} (ho:h.get? d = some o) (hd:o.data = .dict es n) (hk:StrKeys es) (hm:∀ y,nsFind es y = mm y) :
  ∃ o' es' n',(h.update d (Obj.putName name hsh (.str name tk) v)).get? d = some o'∧o'.cls = o.cls∧o'.data = .dict es' n'∧es'.size≤es.size + 1∧((mm name).isSome = true→es'.size≤es.size)∧StrKeys es'∧∀ y,nsFind es' y = if y = name then some v else mm y:=by
 obtain ⟨c,dd,dt,sl⟩:=o
 simp only at hd
 subst hd
 induction hi:es.findIdx? (·.key.isStr name) using Option.casesOn with
 | some i =>
  refine ⟨_,_,n,Heap.get?_update_self _ ho (by simp only [Obj.putName_eq,Obj.putNameByArray,hi];rfl),by simp only [Obj.putName_eq,Obj.putNameByArray,hi],by simp only [Obj.putName_eq,Obj.putNameByArray,hi];rfl,?_,?_,hk.modify _ _,fun x=>?_⟩
  ·simp
  ·intro _;simp
  ·rw [← hm];exact findBy_modify (fun n v=>v.isStr n) Value.isStr_inj es name x v i hi
 | none =>
  refine ⟨_,_,n + 1,Heap.get?_update_self _ ho (by simp only [Obj.putName_eq,Obj.putNameByArray,hi];rfl),by simp only [Obj.putName_eq,Obj.putNameByArray,hi],by simp only [Obj.putName_eq,Obj.putNameByArray,hi];rfl,?_,?_,hk.push _ _ _ _,fun x=>?_⟩
  ·simp
  ·intro q
   rw [← hm] at q
   have:nsFind es name = none:=by
    show findBy _ es name = none
    rw [findBy_of_findIdx?,hi]
   rw [this] at q;exact ft' q
  ·rw [← hm]
   exact findBy_push (fun n v=>v.isStr n) es name x _ _ v (fun y=>by
    show (name == y) = decide (y = name)
    by_cases h:y = name
    ·subst h;simp
    ·have:¬ name = y:=fun e=>h e.symm
     simp [h,this]) hi
section
open Builtin Builtin.ObjectAttr
variable {prog:Program} {w:World} {A:Around} {E:Value→Shared→Prop} {s:Shared} {K:Frag} {x C:Addr} {ox:Obj} {od:Option Obj} {name:Str} {v:Value} {R:Result→Shared→Prop}
theorem osa_at {tk:Tok} {cl:Cl} (X:K.In s.heap) (I:InstAt s.heap x ox C od) (Y:ClsOK K C cl) (ha:findIn K (.ref C) name = some none)
  (h:wpAny (model prog w) A.in1 (storeInOwnDict (.ref x) (.ref C) (.str name tk) name v false)
   (fun fin s'=>match fin with | .done f=>R (.ok f) s' | .again c'=>c'.quiet = true∧codeAny (model prog w) A c' R s') (fun e s'=>R (.error e) s') s) :
  codeAny (model prog w) A (.call (.builtin "object.__setattr__") ⟨[.ref x,.str name tk,v],[]⟩) R s:=by
 have SF:=PySem.F.store_object
 refine x1a5 (Y.refuse :) fun cd hc hd ne ho hr=>?_
 have sub:Looks (model prog w) s.heap (isInstance (.ref x) (.type "object")) true:=I.type.andThen (looks_mroIn X (by unfold mroIn;rw [hc,Option.bind_some,if_neg (by rw [ne];decide),ho]))
 refine codeAny_call_builtin SF.slot.plain SF.entry (@check_slot (model prog w) _ _ s "object.__setattr__" "object" "__setattr__" (.ref x) [.str name tk,v] [] _ SF.kind SF.split sub (SF.args (.ref x) (.str name tk) v) ?_)
 have hm:Looks (model prog w) s.heap (mroOf (.ref C)) cd.mro:=(looks_clsIn X hc).andThen .now
 rw [osa_eq,refuse_eq]
 refine wpAny_bind (wpAny_bind (I.type.here (wpAny_bind (hm.here ?_))))
 rw [hr]
 exact wpAny_pure (wpAny_bind (I.type.here (wpAny_bind ((looks_findIn X ha).here (wpAny_bind (wpAny_pure h))))))
end
section
variable {C:SC} {T:Tk} {F:Fm} {ρ:Va} {σ:St} {s:Shared} {A:Around} {env:Env} {ks:Kd} {v:Ve} {E:Value→Shared→Prop}
theorem setAttr_at {u:V} {a:Nat} {w:V} {σ':St} (h:Mine.setAttr T u a w σ = some σ'):∃ n c cl,u = .loc n∧T.tx.cls.get c = some cl∧hasN cl.attrs a = true ∧
  ((∃ d m,(σ.at n = some (.inst c d)∨σ.at n = some (.exc c d))∧σ.at d = some (.attrs m)∧fitsN (len m) = true∧σ.fz≤d∧σ' = σ.put d (.attrs (up m a w)))∨(σ.at n = some (.raw c)∧σ.fz≤n∧σ' = (σ.new (.attrs [(a,w)])).put n (.exc c σ.nxt))):=by
 unfold Mine.setAttr at h
 induction u using V.casesOn with
 | loc n =>
  dsimp only at h
  induction e:σ.at n using Option.casesOn with
  | none=>rw [e] at h;exact nS' h
  | some o =>
   rw [e] at h
   induction o using O.casesOn with
   | inst c d =>
    dsimp only at h
    induction ep:plainA T c a using Bool.casesOn with
    | false=>rw [ep] at h;exact nS' h
    | true =>
     rw [ep] at h
     refine x1a2 (plainA_ok ep :) fun cl h1 h2=>?_
     dsimp only at h
     unfold setD at h
     induction ed:σ.at d using Option.casesOn with
     | none=>rw [ed] at h;exact nS' h
     | some od =>
      rw [ed] at h
      induction od using O.casesOn with
      | attrs m =>
       dsimp only at h
       induction ef:fitsN (len m) using Bool.casesOn with
       | false=>rw [ef] at h;exact nS' h
       | true =>
        rw [ef] at h
        refine x0a2 (putZ_ok h :) fun hz q1q=>?_;subst q1q
        exact ⟨n,c,cl,rfl,h1,h2,  .inl ⟨d,m,.inl e,ed,ef,hz,rfl⟩⟩
      | _=>exact nS' h
   | exc c d =>
    dsimp only at h
    induction ep:plainA T c a using Bool.casesOn with
    | false=>rw [ep] at h;exact nS' h
    | true =>
     rw [ep] at h
     refine x1a2 (plainA_ok ep :) fun cl h1 h2=>?_
     dsimp only at h
     unfold setD at h
     induction ed:σ.at d using Option.casesOn with
     | none=>rw [ed] at h;exact nS' h
     | some od =>
      rw [ed] at h
      induction od using O.casesOn with
      | attrs m =>
       dsimp only at h
       induction ef:fitsN (len m) using Bool.casesOn with
       | false=>rw [ef] at h;exact nS' h
       | true =>
        rw [ef] at h
        refine x0a2 (putZ_ok h :) fun hz q1q=>?_;subst q1q
        exact ⟨n,c,cl,rfl,h1,h2,.inl ⟨d,m,.inr e,ed,ef,hz,rfl⟩⟩
      | _=>exact nS' h
   | raw c =>
    dsimp only at h
    induction ep:plainA T c a using Bool.casesOn with
    | false=>rw [ep] at h;exact nS' h
    | true =>
     rw [ep] at h
     refine x1a2 (plainA_ok ep :) fun cl h1 h2=>?_
     dsimp only at h
     refine x0a2 (putZ_ok h :) fun hz q1q=>?_;subst q1q
     exact ⟨n,c,cl,rfl,h1,h2,.inr ⟨e,hz,rfl⟩⟩
   | _=>exact nS' h
 | _=>exact nS' h
theorem up_length {α:Type} {x:Nat} {v:α}:∀ {m:List (Nat×α)},m.length≤(up m x v).length∧(lk m x = none→(up m x v).length = m.length + 1):=by
 intro lq
 induction lq with
 | nil =>
  exact ⟨Nat.zero_le _,fun _=>rfl⟩
 | cons hq r ih =>
  obtain ⟨z,u⟩:=hq
  rw [up_cons,lk_cons]
  by_cases q:z = x
  ·rw [if_pos q,if_pos q]
   exact ⟨Nat.le_refl _,fun h=>by exact sN' h⟩
  ·rw [if_neg q,if_neg q]
   refine x0a2 (ih :) fun h1 h2=>?_
   exact ⟨by simpa using h1,fun h=>by simpa using h2 h⟩
theorem setAttr_inst (G:Gr C T) {w:V} {wv:Value} {x:Str} {Q:Unit→Shared→Prop} {n c d:Nat} {cl:Cl} {m:List (Nat×V)} {a:Addr} (e2:T.tx.cls.get c = some cl) (e3:hasN cl.attrs (key x) = true) (e1:σ.at n = some (.inst c d)∨σ.at n = some (.exc c d)) (e4:σ.at d = some (.attrs m))
  (e5:fitsN (len m) = true) (e6:σ.fz≤d) (R:Rel C F ρ σ s) (ha:ρ.adr[n]? = some a) (hw:IsV ρ s.heap w wv) (hQ:∀ s',Next C F ρ s.heap ρ (σ.put d (.attrs (up m (key x) w))) s'→Q () s'):wpAny (model PW C.w) A (PySem.setAttr (.ref a) x wv) Q E s:=by
 obtain ⟨ox,od,dx,es,k,mm,I⟩:∃ ox od dx es k mm,Thing C ρ s.heap σ a c d m ox od dx es k mm:=by
  rcases e1 with e1 | e1
  ·exact R.inst ha e1 e4
  ·exact R.exc ha e1 e4
 have K:=G.cls c cl e2
 have X:=G.Xs R
 have hfit:=fitsN_ok e5
 rw [len_eq] at hfit
 refine set_plain X I.at_ K.set (osa_at (s:={ s with toks:=s.toks + 1 }) X I.at_ K (K.plain x e3) ?_)
 refine x1a3 (K.refuse :) fun cd hc hd _=>?_
 obtain ⟨hx,hcl,hn,hdd⟩:=I.at_
 have dxe:=I.dxe
 obtain ⟨oc,odi,oda,osl⟩:=ox
 dsimp only at hcl dxe
 subst hcl dxe
 refine wpAny_bind (wpAny_pure (wpAny_bind (wpAny_bind (wpAny_loadPart hx (wpAny_bind ((looks_clsIn X hc).at ?_))))))
 rw [hd]
 refine wpAny_pure (a:=some dx) (wpAny_bind (wpAny_pure (wpAny_bind ?_)))
 unfold nsSet
 refine wpAny_bind (wpAny_bind (wpAny_askSetting (wpAny_pure (wpAny_bind (wpAny_mkText (wpAny_bind (wpAny_loadPart I.here ?_)))))))
 rw [I.data]
 dsimp only
 have hany:es.any (·.refKey) = false:=by
  rw [Array.any_eq_false'];intro e he;refine x2a1 (I.keys e he :) fun n t h=>?_;simp [DictEntry.refKey,h]
 have c0:(!es.any (·.key.isStr x) && es.any (·.refKey)) = false:=by rw [hany,Bool.and_false]
 rw [aRefKeyMayBeTheName_at,c0]
 refine wpAny_updatePart I.here ?_
 refine x3a7 (putName_at (name:=x) (hsh:=PyData.keyHash C.w.params x) (tk:=s.toks + 1) (v:=wv) I.here I.data I.keys I.ns :) fun o' es' n' p1 p2 p3 p4 p5 p6 p7=>?_
 have hsz:es'.size≤(up m (key x) w).length:=by
  refine x0a2 (up_length (x:=key x) (v:=w) (m:=m) :) fun q1 q2=>?_
  have:=I.size
  induction e:lk m (key x) using Option.casesOn with
  | none=>have:=q2 e;lia
  | some y =>
   refine x1a2 (I.is.some e :) fun vv hv _=>?_
   have:=p5 (by rw [hv];rfl)
   lia
 have hlen:es'.size≤1000001:=by have:=I.size;lia
 refine wpAny_bind (wpAny_lookBehind p1 (by rw [p3];exact pastItsLine_dict (by rw [sizeLine_eq];lia)) ?_)
 refine wpAny_pure ?_
 have N:=R.turned (o':=.attrs (up m (key x) w)) (s.toks + 1 + 1) I.da e6 I.here (by rw [I.cls];decide) (fun vs q t z=>by rw [I.data] at z;cases z) (Heap.SameBut.update ..) ⟨_,p1⟩ fun tk =>
  ⟨o',es',n',_,p1,p2.trans I.cls,p3,hsz,p6,p7,(I.is.mono (Va.le.refl _) tk).up (hw.mono (Va.le.refl _) tk)⟩
 exact hQ _ N
theorem setAttr_raw (G:Gr C T) {w:V} {wv:Value} {x:Str} {Q:Unit→Shared→Prop} {n c:Nat} {cl:Cl} {a:Addr} (e2:T.tx.cls.get c = some cl) (e3:hasN cl.attrs (key x) = true) (e1:σ.at n = some (.raw c))
  (e6:σ.fz≤n) (R:Rel C F ρ σ s) (ha:ρ.adr[n]? = some a) (hw:IsV ρ s.heap w wv) (hQ:∀ ρ' s',Next C F ρ s.heap ρ' ((σ.new (.attrs [(key x,w)])).put n (.exc c σ.nxt)) s'→Q () s'):wpAny (model PW C.w) A (PySem.setAttr (.ref a) x wv) Q E s:=by
 have K:=G.cls c cl e2
 have X:=G.Xs R
 refine x2a5 (R.thing ha e1 :) fun ox vs hx hcl hdt hdn hv1=>?_
 have hno:notCls ox = true:=by unfold notCls;rw [hdt]
 have I:InstAt s.heap a ox c none:=⟨hx,hcl,hno,by rw [hdn];trivial⟩
 refine set_plain X I K.set (osa_at (s:={ s with toks:=s.toks + 1 }) X I K (K.plain x e3) ?_)
 refine x1a3 (K.refuse :) fun cd hc hd _=>?_
 obtain ⟨oc,odi,oda,osl⟩:=ox
 dsimp only at hcl hdn hdt
 subst hcl hdn hdt
 refine wpAny_bind (wpAny_pure (wpAny_bind (wpAny_bind (wpAny_loadPart hx (wpAny_bind ((looks_clsIn X hc).at ?_))))))
 rw [hd]
 have hlt:n < σ.nxt:=by rw [R.nxt];exact (List.getElem?_eq_some_iff.mp ha).1
 have N1:=R.push (o:=.attrs []) (ob:=emptyDict) rfl (s.toks + 1) ⟨_,#[],0,fun _=>none,Heap.get?_push_size _ rfl,rfl,rfl,Nat.le_refl _,fun _ h=>by simp at h,fun y=>rfl,fun y=>rfl⟩
 have hax:(s.heap.push emptyDict).get? a = some ⟨.ref c,none,.fields vs,osl⟩:=Heap.get?_push_of_some _ hx
 have ha1:(ρ.adr++[s.heap.objs.size])[n]? = some a:=getpre (le_more ρ s.heap.objs.size).adr ha
 have hd1:(ρ.adr++[s.heap.objs.size])[σ.nxt]? = some s.heap.objs.size:=by rw [R.nxt];simp
 have hne:a≠s.heap.objs.size:=Nat.ne_of_lt (Heap.lt_size hx)
 have hup:((s.heap.push emptyDict).update a fun o=>{ o with dict:=some s.heap.objs.size }).get? a = some ⟨.ref c,some s.heap.objs.size,.fields vs,osl⟩:=Heap.get?_update_self _ hax rfl
 have N2:=N1.rel.turned (o':=.exc c σ.nxt) (h':=(s.heap.push emptyDict).update a fun o=>{ o with dict:=some s.heap.objs.size }) (s.toks + 1) ha1 e6 hax (by simp) (fun ws q t z=>by
   cases z;intro z2;rw [hv1] at z2;cases z2) (Heap.SameBut.update ..) ⟨_,hup⟩ fun _=>⟨_,_,vs,hd1,hup,rfl,rfl,rfl,hv1⟩
 have hdn:((s.heap.push emptyDict).update a fun o=>{ o with dict:=some s.heap.objs.size }).get? s.heap.objs.size = some emptyDict:=by
  rw [Heap.get?_update_other _ _ hne];exact Heap.get?_push_size _ rfl
 refine wpAny_bind (wpAny_alloc (wpAny_bind (wpAny_update hax ?_)))
 refine wpAny_pure (a:=some s.heap.objs.size) ?_
 refine wpAny_bind (wpAny_pure (wpAny_bind ?_))
 unfold nsSet
 refine wpAny_bind (wpAny_bind (wpAny_askSetting (wpAny_pure (wpAny_bind (wpAny_mkText (wpAny_bind (wpAny_loadPart hdn ?_)))))))
 dsimp only
 have c0:(!(#[]:Array DictEntry).any (·.key.isStr x) && (#[]:Array DictEntry).any (·.refKey)) = false:=by simp
 rw [aRefKeyMayBeTheName_at,c0]
 refine wpAny_updatePart hdn ?_
 refine x3a7 (putName_at (mm:=fun _=>none) (name:=x) (hsh:=PyData.keyHash C.w.params x) (tk:=s.toks + 1) (v:=wv) hdn rfl (fun _ h=>by simp at h) (fun y=>rfl) :) fun o' es' n' p1 p2 p3 p4 p5 p6 p7=>?_
 have hz:((σ.new (.attrs [])).put n (.exc c σ.nxt)).fz≤σ.nxt:=Nat.le_of_lt (Nat.lt_of_le_of_lt e6 hlt)
 have N3:=N2.rel.turned (o':=.attrs [(key x,w)]) (s.toks + 1 + 1) hd1 hz hdn (by simp) (fun ws q t z=>by cases z) (Heap.SameBut.update ..) ⟨_,p1⟩ fun tk =>
  ⟨o',es',n',_,p1,p2,p3,by simpa using p4,p6,p7,fun y=>by
   rw [lk_cons,lk_nil]
   by_cases q:key x = key y
   ·have:=key_inj q
    subst this
    rw [if_pos rfl]
    exact ⟨wv,by simp,hw.mono (le_more _ _) ((N1.tk.trans N2.tk).trans tk)⟩
   ·rw [if_neg q]
    have:y≠x:=fun z=>q (by rw [z])
    simp [this]⟩
 refine wpAny_bind (wpAny_lookBehind p1 (by rw [p3];exact pastItsLine_dict (by rw [sizeLine_eq];simp at p4;lia)) ?_)
 refine wpAny_pure ?_
 have hσ:(((σ.new (.attrs [])).put n (.exc c σ.nxt)).put σ.nxt (.attrs [(key x,w)])) = ((σ.new (.attrs [(key x,w)])).put n (.exc c σ.nxt)):=by
  have hne2:¬ σ.nxt = n:=Nat.ne_of_gt hlt
  simp only [St.put,St.new,up_cons,if_neg hne2,if_true]
 have N:=(N1.trans N2).trans N3
 rw [hσ] at N
 exact hQ _ _ N
theorem setAttr_ok (G:Gr C T) {u w:V} {uv wv:Value} {x:Str} {σ':St} {Q:Unit→Shared→Prop} (h:Mine.setAttr T u (key x) w σ = some σ') (R:Rel C F ρ σ s) (hu:IsV ρ s.heap u uv) (hw:IsV ρ s.heap w wv)
  (hQ:∀ ρ' s',Next C F ρ s.heap ρ' σ' s'→Q () s'):wpAny (model PW C.w) A (PySem.setAttr uv x wv) Q E s:=by
 refine x3a4 (setAttr_at h :) fun n c cl q3q e2 e3 hcase=>?_;subst q3q
 refine x1a2 (hu.inv :) fun a evq ha=>?_;subst evq
 rcases hcase with ⟨d,m,e1,e4,e5,e6,rfl⟩ | ⟨e1,e6,rfl⟩
 ·exact setAttr_inst G e2 e3 e1 e4 e5 e6 R ha hw fun s' N=>hQ _ _ N
 ·exact setAttr_raw G e2 e3 e1 e6 R ha hw hQ
end
end Mine
end
section
namespace Mine
theorem stored_hit {K:Type} [DecidableEq K] {k:K} {v v0:Value} {vs:List (K×Value)} (hn:k ∉ vs.map (·.1)):stored ((k,v0) :: vs) k v = (k,v) :: vs:=by
 unfold stored
 rw [if_pos (by simp),List.map_cons,if_pos rfl]
 congr 1
 exact (List.map_congr_left fun (p:K×Value) hp=>if_neg fun (z:p.1 = k)=>hn (List.mem_map.mpr ⟨p,hp,z⟩)).trans (List.map_id' _)
theorem stored_miss {K:Type} [DecidableEq K] {k k0:K} {v v0:Value} {vs:List (K×Value)} (hk:k0≠k):stored ((k0,v0) :: vs) k v = (k0,v0) :: stored vs k v:=by
 unfold stored
 rw [List.any_cons,List.map_cons,if_neg hk,decide_eq_false hk,Bool.false_or]
 split <;> rfl
theorem IsKS.length {ρ:Va} {h:Heap}:∀ {m:List (Nat×V)} {kvs:List (Str×Value)},IsKS ρ h m kvs→m.length = kvs.length :=
 fun h=>h.len
theorem IsKI.length {ρ:Va} {h:Heap}:∀ {m:List (Int×V)} {kvs:List (Int×Value)},IsKI ρ h m kvs→m.length = kvs.length:=by
 intro m kvs q
 induction q with
 | nil=>rfl
 | cons _ _ ih=>exact congrArg (· + 1) ih
theorem IsKS.stored {ρ:Va} {h:Heap} {x:Str} {w:V} {v:Value} (hw:IsV ρ h w v):∀ {m:List (Nat×V)} {kvs:List (Str×Value)},IsKS ρ h m kvs→(kvs.map (·.1)).Nodup→IsKS ρ h (up m (key x) w) (stored kvs x v):=by
 intro m kvs q
 induction q with
 | nil=>intro _;exact .cons rfl hw .nil
 | @cons k n u v' xs vs e hv r ih =>
  intro hn
  subst e
  rw [List.map_cons,List.nodup_cons] at hn
  rw [up_cons]
  by_cases q:k = x
  ·subst q
   rw [if_pos rfl,stored_hit hn.1]
   exact .cons rfl hw r
  ·rw [if_neg fun z=>q (key_inj z),stored_miss q]
   exact .cons rfl hv (ih hn.2)
theorem IsKI.stored {ρ:Va} {h:Heap} {x:Int} {w:V} {v:Value} (hw:IsV ρ h w v):∀ {m:List (Int×V)} {kvs:List (Int×Value)},IsKI ρ h m kvs→(kvs.map (·.1)).Nodup→IsKI ρ h (upI m x w) (stored kvs x v):=by
 intro m kvs q
 induction q with
 | nil=>intro _;exact .cons hw .nil
 | @cons k u v' xs vs hv r ih =>
  intro hn
  rw [List.map_cons,List.nodup_cons] at hn
  rw [upI_cons]
  by_cases q:k = x
  ·subst q
   rw [if_pos rfl,stored_hit hn.1]
   exact .cons hw r
  ·rw [if_neg q,stored_miss q]
   exact .cons hv (ih hn.2)
section
variable {C:SC} {T:Tk} {F:Fm} {ρ:Va} {σ:St} {s:Shared} {A:Around} {env:Env} {ks:Kd} {v:Ve} {E:Value→Shared→Prop}
theorem TK.ns {h h':Heap} {L:Addr} {mm:Str→Option Value} (hn:h.Ns L mm) (hs:Heap.SameBut L h h'):TK h h':=by
 refine x3a3 hn fun oL es ep eL dL rL=>?_;clear hn
 have k:∀ b o,b≠L→h.get? b = some o→h'.get? b = some o:=fun b o q e=>(hs.2 b q).trans e
 refine ⟨fun b items hz=>x1a3 hz fun o ho hc hz=>x1a1 hz fun n hd=>⟨o,k _ _ (fun q=>?_) ho,hc,n,hd⟩,fun cv q hz=>x4a4 hz fun c o vs t e g d r=>⟨c,o,vs,t,e,k _ _ (fun z=>?_) g,d,r⟩⟩
 ·rw [q,eL] at ho;(refine jS ho fun j=>?_;clear ho;subst j);rw [dL] at hd;cases hd
 ·rw [z,eL] at g;(refine jS g fun j=>?_;clear g;subst j);rw [dL] at d;cases d
theorem storeK_ok {x:Str} {u:V} {uv:Value} {σ':St} {Q:Unit→Shared→Prop} (h:storeK (lk ks (key x)) (key x) v u σ = some σ') (H:EnvOK C A F env ks v ρ) (R:Rel C F ρ σ s) (hu:IsV ρ s.heap u uv)
  (hQ:∀ s',Next C F ρ s.heap ρ σ' s'→Q () s'):wpAny (model PW C.w) A (storeName env x uv) Q E s:=by
 unfold storeK at h
 induction ek:lk ks (key x) using Option.casesOn with
 | none=>rw [ek] at h;exact nS' h
 | some k =>
  rw [ek] at h
  have hk:=H.kindOf ek
  induction k using NameKind.casesOn with
  | «local» =>
   (refine jS h fun j=>?_;clear h;subst j)
   refine y12 R.cur fun hoff mm hn hm=>?_
   refine wpAny_storeName_local hk (H.loc▸hn) (fun h' hn' hs'=>?_) (by rw [H.kind];rfl)
   rw [H.loc] at hn' hs'
   exact hQ _ ⟨Va.le.refl _,TK.ns hn hs',R.store hn hm hn' hs' hu⟩
  | cell =>
   have h':storeC v (key x) u σ = some σ':=h
   unfold storeC at h'
   induction e:lk v.cells (key x) using Option.casesOn with
   | none=>rw [e] at h';exact nS' h'
   | some n =>
    rw [e] at h'
    dsimp only at h'
    induction eo:σ.at n using Option.casesOn with
    | none=>rw [eo] at h';exact nS' h'
    | some o =>
     rw [eo] at h'
     induction o using O.casesOn with
     | cell w =>
      refine x0a2 (putZ_ok h' :) fun hz q1q=>?_;subst q1q
      refine x1a2 (H.cells x n e :) fun c hc hn=>?_
      refine x1a2 (R.thing hn eo :) fun vo hI _=>?_
      refine wpAny_storeName_cell H.kind hk hc hI fun h2 hI2 hs2=>?_
      refine x1a2 hI fun oc hoc hdc=>?_;clear hI
      have tk:TK s.heap h2:=by
       have k:∀ b o,b≠c→s.heap.get? b = some o→h2.get? b = some o:=fun b o q e=>(hs2.2 b q).trans e
       refine ⟨fun b items hz=>x1a3 hz fun o ho hc hz=>x1a1 hz fun n hd=>⟨o,k _ _ (fun q=>?_) ho,hc,n,hd⟩,fun cv q hz=>x4a4 hz fun c o vs t e g d r=>⟨c,o,vs,t,e,k _ _ (fun z=>?_) g,d,r⟩⟩
       ·rw [q,hoc] at ho;(refine jS ho fun j=>?_;clear ho;subst j);rw [hdc] at hd;cases hd
       ·rw [z,hoc] at g;(refine jS g fun j=>?_;clear g;subst j);rw [hdc] at d;cases d
      exact hQ _ (R.turnedK (o':=.cell (some u)) (h':=h2) s.toks hn hz tk hs2 (let ⟨o,e,_⟩:=hI2;⟨o,e⟩) ⟨_,hI2,fun y hy=>by (refine jS hy fun j=>?_;clear hy;subst j);exact ⟨_,rfl,hu.mono (Va.le.refl _) tk⟩⟩)
     | _=>exact nS' h'
  | _=>exact nS' h
theorem onO_ok {b:Bool} {x:Option St} {σ':St} (h:onO b x = some σ'):b = true∧x = some σ':=by
 induction b using Bool.casesOn with
 | true=>exact ⟨rfl,h⟩
 | false=>exact nS' h
theorem setItem_ok {u i w:V} {uv iv wv:Value} {σ':St} {Q:Unit→Shared→Prop} (h:Mine.setItem u i w σ = some σ') (R:Rel C F ρ σ s) (hu:IsV ρ s.heap u uv) (hi:IsV ρ s.heap i iv) (hw:IsV ρ s.heap w wv)
  (hQ:∀ s',Next C F ρ s.heap ρ σ' s'→Q () s'):wpAny (model PW C.w) A (PySem.setItem uv iv wv) Q E s:=by
 unfold Mine.setItem at h
 induction hu using IsV.casesOn with
 | @loc n a ha =>
  dsimp only at h
  induction eo:σ.at n using Option.casesOn with
  | none=>rw [eo] at h;exact nS' h
  | some o =>
   rw [eo] at h
   have io:=R.thing ha eo
   have go:∀ {K:Type} [DecidableEq K] {knd:KeyKind PW C.w K} {k:K} {kvs:List (K×Value)} {o':O},knd.is k iv = true→s.heap.DictOf knd a kvs→kvs.length≤1000000→σ.fz≤n →
     (∀ h',h'.DictOf knd a (stored kvs k wv)→TK s.heap h'→IsO C ρ h' a o')→(∀ s',Next C F ρ s.heap ρ (σ.put n o') s'→Q () s')→wpAny (model PW C.w) A (PySem.setItem (.ref a) iv wv) Q E s:=by
    intro K _ knd k kvs o' hk hd hl hz H hQ'
    refine wpAny_setItem_pairs hk hd (fun h' hd' hs'=>?_) (fits_line hl)
    refine x3a4 (id hd :) fun od es ep e hx dd _=>?_
    have nt:od.cls≠.type "tuple":=by
     refine x1a2 (hd.mapOf.typeIs :) fun _ hT hc=>?_
     rw [e] at hT;(refine jS hT fun j=>?_;clear hT;subst j)
     rw [hc];decide
    refine x3a2 (id hd' :) fun od' es' ep' e' _=>?_
    have N:=R.turned (o':=o') (h':=h') (s.toks + 1) ha hz e nt (fun vs q t z=>by rw [dd] at z;cases z) hs' ⟨_,e'⟩ fun tk=>H h' hd' tk
    exact hQ' _ N
   induction hi using IsV.casesOn with
   | @str x t =>
    induction o using O.casesOn with
    | sdict m =>
     obtain ⟨hs,kvs,hd,hk⟩:=io
     refine x0a2 (onO_ok (b:=fitsN (len m)) h :) fun h1 h2=>?_
     refine x0a2 (putZ_ok h2 :) fun hz q1q=>?_;subst q1q
     have hf:=fitsN_ok h1
     rw [len_eq,hk.length] at hf
     refine x3a6 (id hd :) fun _ _ _ _ _ _ _ _ hnd=>?_
     exact go (o':=.sdict (up m (key x) w)) (strKind_is _ _ x t) hd hf hz (fun h' hd' tk=>⟨hs,_,hd',(hk.mono (Va.le.refl _) tk).stored (hw.mono (Va.le.refl _) tk) hnd⟩) hQ
    | edict =>
     refine x0a3 io fun hs d1 d2=>?_;clear io
     refine x0a2 (putZ_ok (show σ.putZ n (.sdict [(key x,w)]) = some σ' from h) :) fun hz q1q=>?_;subst q1q
     exact go (o':=.sdict [(key x,w)]) (strKind_is _ _ x t) d1 (by simp) hz (fun h' hd' tk=>⟨hs,_,hd',.cons rfl (hw.mono (Va.le.refl _) tk) .nil⟩) hQ
    | _=>exact nS' h
   | @int x t =>
    induction o using O.casesOn with
    | idict m =>
     obtain ⟨hs,kvs,hd,hk⟩:=io
     refine x0a2 (onO_ok (b:=fitsN (len m)) h :) fun h1 h2=>?_
     refine x0a2 (putZ_ok h2 :) fun hz q1q=>?_;subst q1q
     have hf:=fitsN_ok h1
     rw [len_eq,hk.length] at hf
     refine x3a6 (id hd :) fun _ _ _ _ _ _ _ _ hnd=>?_
     exact go (o':=.idict (upI m x w)) (intKind_is _ _ x t) hd hf hz (fun h' hd' tk=>⟨hs,_,hd',(hk.mono (Va.le.refl _) tk).stored (hw.mono (Va.le.refl _) tk) hnd⟩) hQ
    | edict =>
     refine x0a3 io fun hs d1 d2=>?_;clear io
     refine x0a2 (putZ_ok (show σ.putZ n (.idict [(x,w)]) = some σ' from h) :) fun hz q1q=>?_;subst q1q
     exact go (o':=.idict [(x,w)]) (intKind_is _ _ x t) d2 (by simp) hz (fun h' hd' tk=>⟨hs,_,hd',.cons (hw.mono (Va.le.refl _) tk) .nil⟩) hQ
    | _=>exact nS' h
   | _=>exact nS' h
 | _=>exact nS' h
end
end Mine
end
section
namespace Mine
noncomputable def WA (C:SC) (ks:Kd) (f:Ve→V→St→(St→Bool)→KX→Bool) (t:PySem.Expr):Prop :=
 ∀ v u σ κ ε,f v u σ κ ε = true→∀ A F env ρ s uv Q E,EnvOK C A F env ks v ρ→Rel C F ρ σ s→IsV ρ s.heap u uv→(∀ ρ' σ' s',κ σ' = true→Next C F ρ s.heap ρ' σ' s'→Q () s')→GoE C F ρ s.heap ε E →
  wpAny (model PW C.w) A (assign t env uv) Q E s
theorem stO_ok {κ:St→Bool} {x:Option St} (h:stO κ x = true):∃ σ,x = some σ∧κ σ = true:=by
 induction x using Option.casesOn with
 | none=>exact ft' h
 | some σ=>exact ⟨σ,rfl,h⟩
section
variable {C:SC} {T:Tk} {F:Fm} {ρ:Va} {σ:St} {s:Shared} {A:Around} {env:Env} {ks:Kd} {v:Ve} {E:Value→Shared→Prop}
theorem store1_ok {t:PySem.Expr} {u:V} {uv:Value} {σ':St} {Q:Unit→Shared→Prop} (h:store1 ks t v u σ = some σ') (H:EnvOK C A F env ks v ρ) (R:Rel C F ρ σ s) (hu:IsV ρ s.heap u uv) (hQ:∀ s',Next C F ρ s.heap ρ σ' s'→Q () s') :
  (∃ x p,t = .Name x p)∧wpAny (model PW C.w) A (assign t env uv) Q E s:=by
 induction t using Expr.casesOn with
 | Name x p=>exact ⟨⟨x,p,rfl⟩,wpAny_assign_Name (storeK_ok h H R hu hQ)⟩
 | _=>exact nS' h
theorem storeVs_names:∀ (ts:List PySem.Expr) (us:List V) (σ σ':St),storeVs ks ts v us σ = some σ'→ts.length = us.length∧∀ t∈ts,∃ x p,t = PySem.Expr.Name x p:=by
 intro lq
 induction lq with
 | nil =>
  intro us σ σ' h
  induction us using List.casesOn with
  | nil=>exact ⟨rfl,fun _ q=>(by cases q)⟩
  | cons _ _=>exact nS' h
 | cons t ts ih =>
  intro us σ σ' h
  induction us using List.casesOn with
  | nil=>exact nS' h
  | cons u us =>
   have h':(match store1 ks t v u σ with | some σ1=>storeVs ks ts v us σ1 | none=>none) = some σ':=h
   induction e:store1 ks t v u σ using Option.casesOn with
   | none=>rw [e] at h';exact nS' h'
   | some σ1 =>
    rw [e] at h'
    refine x0a2 (ih us σ1 σ' h' :) fun h1 h2=>?_
    refine ⟨by simp [h1],fun t' ht=>?_⟩
    rcases List.mem_cons.mp ht with rfl | ht
    ·induction t' using Expr.casesOn with
     | Name x p=>exact ⟨_,_,rfl⟩
     | _=>exact nS' e
    ·exact h2 t' ht
theorem storeVs_ok:∀ (ts:List PySem.Expr) (us:List V) (vs:List Value) (σ σ':St) (s:Shared) (Q:Unit→Shared→Prop),storeVs ks ts v us σ = some σ'→EnvOK C A F env ks v ρ→Rel C F ρ σ s→IsVs ρ s.heap us vs→(∀ s',Next C F ρ s.heap ρ σ' s'→Q () s') →
  wpAny (model PW C.w) A (assignInOrder (ts.map fun t=>assign t env) vs) Q E s:=by
 intro lq
 induction lq with
 | nil =>
  intro us vs σ σ' s Q h H R hu hQ
  induction hu using IsVs.casesOn with
  | nil=>(refine jS h fun j=>?_;clear h;subst j);exact wpAny_assignInOrder_none (hQ _ (.here R))
  | cons _ _=>exact nS' h
 | cons t ts ih =>
  intro us vs σ σ' s Q h H R hu hQ
  induction hu using IsVs.casesOn with
  | nil=>exact nS' h
  | @cons u w us ws hu hr =>
   have h':(match store1 ks t v u σ with | some σ1=>storeVs ks ts v us σ1 | none=>none) = some σ':=h
   induction e:store1 ks t v u σ using Option.casesOn with
   | none=>rw [e] at h';exact nS' h'
   | some σ1 =>
    rw [e] at h'
    exact wpAny_assignInOrder_more (store1_ok e H R hu fun s' N=>ih us ws σ1 σ' s' Q h' H N.rel (hr.mono N.pre N.tk) fun s'' N'=>hQ s'' (N.trans N')).2
theorem each_names {ts:List PySem.Expr} (h:∀ t∈ts,∃ x p,t = PySem.Expr.Name x p):(assignEach ts env).length = ts.length∧(assignEach ts env).findIdx? (·.1) = none∧(assignEach ts env).map (·.2) = ts.map fun t=>assign t env:=by
 induction ts with
 | nil=>exact ⟨rfl,rfl,rfl⟩
 | cons t ts ih =>
  refine x2a1 (h t (.head _) :) fun x p q2q=>?_;subst q2q
  refine x0a3 (ih fun t ht=>h t (.tail _ ht) :) fun h1 h2 h3=>?_
  have e:assignEach (PySem.Expr.Name x p :: ts) env = (false,assign (.Name x p) env) :: assignEach ts env:=rfl
  rw [e]
  refine ⟨by simp [h1],?_,by simp [h3]⟩
  rw [List.findIdx?_cons,h2];rfl
theorem asg_ok (G:Gr C T) {cx:PySem.Expr→Mine.C} {r:Rc} (hc:WCx C ks r cx) (t:PySem.Expr):WA C ks (fun v u σ κ ε=>(asgC T cx ks t).a r v u σ κ ε) t:=by
 intro v u σ κ ε h A F env ρ s uv Q E H R hu hQ GE
 induction t using Expr.casesOn with
 | Name x p =>
  refine x1a2 (stO_ok (x:=storeK (lk ks (key x)) (key x) v u σ) h :) fun σ' h1 h2=>?_
  exact wpAny_assign_Name (storeK_ok h1 H R hu fun s' N=>hQ _ _ _ h2 N)
 | Tuple ts k p =>
  induction hu using IsV.casesOn with
  | @tup l a vs ht hl =>
   refine x1a2 (stO_ok (x:=storeVs ks ts v l σ) h :) fun σ' h1 h2=>?_
   refine x0a2 (storeVs_names _ _ _ _ h1 :) fun n1 n2=>?_
   refine x0a3 (each_names (env:=env) n2 :) fun g1 g2 g3=>?_
   have hlen:ts.length = vs.length:=n1.trans hl.length
   refine wpAny_assign_Tuple H.hand ht (by rw [g1,List.size_toArray,hlen]) g2 fun h' hx=>?_
   have hk:∀ b o,s.heap.get? b = some o→h'.get? b = some o:=fun b o e=>hx b o (Nat.ne_of_lt (Heap.lt_size e)) e
   have R':Rel C F ρ σ { s with heap:=h' }:=R.grow hk rfl rfl
   have N':Next C F ρ s.heap ρ σ { s with heap:=h' }:=⟨Va.le.refl _,TK.keeps hk,R'⟩
   rw [g3]
   exact storeVs_ok ts l vs σ σ' _ Q h1 H R' (hl.mono (Va.le.refl _) (TK.keeps hk)) fun s' N=>hQ _ _ _ h2 (N'.trans N)
  | _=>exact ft' h
 | Attribute o a p =>
  rw [arm_assign_Attribute]
  have h':(cx o).x r v σ (fun o' σ'=>stO κ (Mine.setAttr T o' (key a) u σ')) ε = true:=h
  refine wpAny_bind (wpAny_holding ((hc.ok o).x v σ _ ε h' A F env ρ s _ E H R ?_ GE))
  intro ρ1 σ1 s1 ou ov hou N hov
  refine x1a2 (stO_ok hou :) fun σ' h1 h2=>?_
  refine wpAny_bind (wpAny_standAt (wpAny_bind (wpAny_holding (setAttr_ok G h1 N.rel hov (hu.mono N.pre N.tk) fun ρ' s' N'=>?_))))
  exact wpAny_release (hQ _ _ _ h2 (N.trans N'))
 | Subscript o i p =>
  rw [arm_assign_Subscript]
  have h':(cx o).x r v σ (fun o' σ'=>(cx i).x r v σ' (fun j σ''=>stO κ (Mine.setItem o' j u σ'')) ε) ε = true:=h
  refine wpAny_bind (wpAny_holding ((hc.ok o).x v σ _ ε h' A F env ρ s _ E H R ?_ GE))
  intro ρ1 σ1 s1 ou ov hou N hov
  refine wpAny_bind (wpAny_holding ((hc.ok i).x v σ1 _ ε hou A F env ρ1 s1 _ E (H.mono N.pre) N.rel ?_ (GE.next N)))
  intro ρ2 σ2 s2 iu iv hiu N2 hiv
  refine x1a2 (stO_ok hiu :) fun σ' h1 h2=>?_
  have N':=N.trans N2
  refine wpAny_bind (wpAny_standAt (wpAny_bind (wpAny_holding (setItem_ok h1 N2.rel (hov.mono N2.pre N2.tk) hiv (hu.mono N'.pre N'.tk) fun s' N3=>?_))))
  exact wpAny_release (hQ _ _ _ h2 (N'.trans N3))
 | _=>exact ft' h
end
end Mine
end
section
namespace Mine
noncomputable def WSt (C:SC) (ks:Kd) (r:Rc) (st:PySem.Stmt) (c:CS):Prop:=WS C ks (fun v σ κ ε=>c.s r v σ κ ε) (exec st)
structure WCs (C:SC) (ks:Kd) (r:Rc) (cs:PySem.Stmt→CS):Prop where
 ok:∀ st,WSt C ks r st (cs st)
theorem noS_ok {C:SC} {ks:Kd} {r:Rc} {st:PySem.Stmt}:WSt C ks r st noS:=fun _ _ _ _ h=>(Bool.false_ne_true h).elim
section
variable {C:SC} {T:Tk} {F:Fm} {ρ:Va} {σ:St} {s:Shared} {A:Around} {env:Env} {ks:Kd} {v:Ve} {E:Value→Shared→Prop} {cx:PySem.Expr→Mine.C} {cs:PySem.Stmt→CS} {r:Rc}
theorem css_ok (hs:WCs C ks r cs):∀ (l:List PySem.Stmt),WS C ks (fun v σ κ ε=>css cs l r v σ κ ε) (execs l):=by
 intro l
 induction l with
 | nil=>exact fun v σ κ ε h A F env ρ s Q E H T1 R G GE=>wpAny_execs_nil (G _ _ _ _ _ h (.here R) .next)
 | cons st l ih =>
  intro v σ κ ε h A F env ρ s Q E H T1 R G GE
  have h':(cs st).s r v σ (ssK κ (fun σ'=>css cs l r v σ' κ ε)) ε = true:=h
  refine wpAny_execs_cons (hs.ok st v σ _ ε h' A F env ρ s _ E H T1 R ?_ GE)
  intro ρ' σ' s' fl f hf N hi
  cases hi with
  | next=>exact ih v σ' κ ε hf A F env ρ' s' Q E (H.mono N.pre) T1 N.rel (G.next N) (GE.next N)
  | ret hv=>exact G _ _ _ _ _ hf N (.ret hv)
  | cont=>exact G _ _ _ _ _ hf N .cont
theorem okVal_swap {t e:PySem.Expr} {env:Env} {n:Nat} (h:okVal t e = true):swapsWithSole [t] e n env = pure false∧swappedStores [t] e env = pure none:=by
 constructor
 ·induction e using Expr.casesOn <;> first | rfl | exact ft' h
 ·induction t using Expr.casesOn with
  | Tuple _ _ _=>induction e using Expr.casesOn <;> first | rfl | exact ft' h
  | List _ _=>induction e using Expr.casesOn <;> first | rfl | exact ft' h
  | _=>rfl
theorem assignAll_one {t:Value→Sem Unit} {x:Value}:assignAll x [t] = t x:=rfl
theorem each_one {t:PySem.Expr} {env:Env} (h:∀ a b,t≠.Starred a b):(assignEach [t] env).map (·.2) = [assign t env]:=by
 induction t using Expr.casesOn <;> first | rfl | exact absurd rfl (h _ _)
theorem asgs_ok (G:Gr C T) (hc:WCx C ks r cx) {ts:List PySem.Expr} {e:PySem.Expr} {p:Pos}:WSt C ks r (.Assign ts e p) (sAsgs T cx ks ts e):=by
 induction ts using List.casesOn with
 | nil=>exact noS_ok
 | cons t ts =>
  induction ts using List.casesOn with
  | cons _ _=>exact noS_ok
  | nil =>
   show WSt C ks r _ (match okVal t e with | true=>sAsg cx (asgC T cx ks t) e | false=>noS)
   induction ho:okVal t e using Bool.casesOn with
   | false=>exact noS_ok
   | true =>
    intro v σ κ ε h A F env ρ s Q E H T1 R GS GE
    have h':(cx e).x r v σ (fun u σ'=>(asgC T cx ks t).a r v u σ' (κ .next) ε) ε = true:=h
    refine x0a2 (okVal_swap (env:=env) (n:=p.line) ho :) fun g1 g2=>?_
    refine wpAny_Assign_stores ((hc.ok e).x v σ _ ε h' A F env ρ s _ E H R ?_ GE) g1 g2
    intro ρ' σ' s' u uv hu N hv
    have hst:∀ a b,t≠.Starred a b:=fun a b q=>by
     subst q;exact ft' hu
    rw [each_one hst,assignAll_one]
    exact asg_ok G hc t v u σ' _ ε hu A F env ρ' s' uv _ E (H.mono N.pre) N.rel hv (fun ρ'' σ'' s'' hk N'=>GS _ _ _ _ _ hk (N.trans N') .next) (GE.next N)
theorem noSwap {e:PySem.Expr} {env:Env} {n:Nat} (h:isComp e = false):swapsWith e none n env = pure false:=by
 induction e using Expr.casesOn <;> first | rfl | exact tf' h
theorem exp_ok (hc:WCx C ks r cx) {e:PySem.Expr} {p:Pos}:WSt C ks r (.Expr e p) (sExp cx e):=by
 unfold sExp
 induction hi:isComp e using Bool.casesOn with
 | true=>exact noS_ok
 | false =>
  intro v σ κ ε h A F env ρ s Q E H T1 R GS GE
  have h':(cx e).x r v σ (fun _ σ'=>κ .next σ') ε = true:=h
  refine wpAny_Expr_any ((hc.ok e).x v σ _ ε h' A F env ρ s _ E H R ?_ GE) ?_ ?_
  ·intro ρ' σ' s' u uv hu N hv
   exact GS _ _ _ _ _ hu N .next
  ·unfold interactive;rw [H.kind];rfl
  ·exact noSwap hi
theorem ret_ok (hc:WCx C ks r cx) {e:Option PySem.Expr} {p:Pos}:WSt C ks r (.Return e p) (sRet cx e):=by
 induction e using Option.casesOn with
 | none=>exact noS_ok
 | some e =>
  intro v σ κ ε h A F env ρ s Q E H T1 R GS GE
  have h':(cx e).x r v σ (fun u σ'=>κ (.ret u) σ') ε = true:=h
  rw [arm_exec_Return]
  refine wpAny_bind (wpAny_standAt ?_)
  show wpAny _ _ (eval e env >>= fun x=>pure (Flow.ret x)) _ _ _
  refine wpAny_bind ((hc.ok e).x v σ _ ε h' A F env ρ s _ E H R ?_ GE)
  intro ρ' σ' s' u uv hu N hv
  exact wpAny_pure (GS _ _ _ _ _ hu N (.ret hv))
theorem ifS_ok (hc:WCx C ks r cx) (hs:WCs C ks r cs) {t:PySem.Expr} {a b:List PySem.Stmt} {p:Pos}:WSt C ks r (.If t a b p) (sIf cx cs t a b):=by
 intro v σ κ ε h A F env ρ s Q E H T1 R GS GE
 have h':(cx t).t r v σ (fun c σ'=>match c with | true=>css cs a r v σ' κ ε | false=>css cs b r v σ' κ ε) ε = true:=h
 refine wpAny_If ((hc.ok t).t v σ _ ε h' A F env ρ s _ E H R ?_ GE)
 intro ρ' σ' s' c hk N
 induction c using Bool.casesOn with
 | true=>exact css_ok hs a v σ' κ ε hk A F env ρ' s' Q E (H.mono N.pre) T1 N.rel (GS.next N) (GE.next N)
 | false=>exact css_ok hs b v σ' κ ε hk A F env ρ' s' Q E (H.mono N.pre) T1 N.rel (GS.next N) (GE.next N)
theorem cont_ok {p:Pos}:WSt C ks r (.Continue p) ⟨fun _ _ σ κ _=>κ .cont σ⟩ :=
 fun v σ κ ε h A F env ρ s Q E H T1 R GS GE=>wpAny_Continue (GS _ _ _ _ _ h (.here R) .cont)
theorem pass_ok {p:Pos}:WSt C ks r (.Pass p) ⟨fun _ _ σ κ _=>κ .next σ⟩ :=
 fun v σ κ ε h A F env ρ s Q E H T1 R GS GE=>by
  rw [arm_exec_Pass]
  exact wpAny_bind (wpAny_standAt (wpAny_pure (GS _ _ _ _ _ h (.here R) .next)))
theorem binN_ok {o:Operator} {x y:V} {v w:Value} {κ:KX} {Q:Value→Shared→Prop} (h:binN o x y σ κ = true) (R:Rel C F ρ σ s) (hx:IsV ρ s.heap x v) (hy:IsV ρ s.heap y w) (G:GoQ C F ρ s.heap κ Q) :
  wpAny (model PW C.w) A (inplaceOp o v w) Q E s:=by
 induction hx using IsV.casesOn with
 | @int i t=>exact binInt_ok (ip:=true) h R hy G
 | @bv l m t hb =>
  refine x1a2 (retO_ok (x:=bvOp o (.bv l) y) h :) fun u hu hκ=>?_
  exact bvOp_ok (ip:=true) hu (.bv (t:=t) hb) hy fun e hb=>G _ _ _ _ _ hκ (.tok R _) (e▸.bv hb)
 | _=>exact ft' h
theorem aug_ok (hc:WCx C ks r cx) {t:PySem.Expr} {o:Operator} {e:PySem.Expr} {p:Pos}:WSt C ks r (.AugAssign t o e p) (sAug cx ks t o e):=by
 induction t using Expr.casesOn with
 | Name x np =>
  show WSt C ks r _ (match oddName (key x) with | true=>noS | false=>⟨fun r v σ κ ε=>augK (fun σ u=>(cx e).x r v σ (fun w σ'=>binN o u w σ' (kSto (lk ks (key x)) (key x) v κ)) ε) σ (loadK (lk ks (key x)) (key x) v σ)⟩)
  induction eo:oddName (key x) using Bool.casesOn with
  | true=>exact noS_ok
  | false =>
  intro v σ κ ε h A F env ρ s Q E H T1 R GS GE
  have h':augK (fun σ u=>(cx e).x r v σ (fun w σ'=>binN o u w σ' (kSto (lk ks (key x)) (key x) v κ)) ε) σ (loadK (lk ks (key x)) (key x) v σ) = true:=h
  rw [arm_exec_AugAssign]
  refine wpAny_bind (wpAny_standAt (wpAny_bind ?_))
  induction el:loadK (lk ks (key x)) (key x) v σ using Option.casesOn with
  | none=>rw [el] at h';exact ft' h'
  | some u =>
   rw [el] at h'
   have h2:(cx e).x r v σ (fun w σ'=>binN o u w σ' (kSto (lk ks (key x)) (key x) v κ)) ε = true:=h'
   refine loadK_ok (p:=p) el eo H R fun vv hv=>?_
   refine wpAny_bind (wpAny_holding ((hc.ok e).x v σ _ ε h2 A F env ρ s _ E H R ?_ GE))
   intro ρ1 σ1 s1 w wv hw N hwv
   refine wpAny_bind (wpAny_standAt (wpAny_bind (wpAny_operating (binN_ok hw N.rel (hv.mono N.pre N.tk) hwv ?_))))
   intro ρ2 σ2 s2 y yv hy N2 hyv
   refine x1a2 (stO_ok (x:=storeK (lk ks (key x)) (key x) v y σ2) hy :) fun σ3 e3 hκ=>?_
   have N':=N.trans N2
   refine wpAny_bind (wpAny_standAt (wpAny_bind ?_))
   have key:wpAny (model PW C.w) A (storeName env x yv) (fun _ s'=>wpAny (model PW C.w) A (pure Flow.next) Q E s') E s2:=storeK_ok e3 (H.mono N'.pre) N'.rel hyv fun s' N3=>wpAny_pure (GS _ _ _ _ _ hκ (N'.trans N3) .next)
   exact wpAny_bindName key
 | _=>exact noS_ok
end
end Mine
end
section
namespace Mine
section
variable {C:SC} {T:Tk} {F:Fm} {ρ:Va} {σ:St} {s:Shared} {A:Around} {env:Env} {E:Value→Shared→Prop}
theorem IsO.field1 {h h':Heap} {a T:Addr} {oe:Obj} {vs:Array Value} {c d:Nat} (ho:h.get? a = some oe) (hd:oe.data = .fields vs) (ho':h'.get? a = some (Obj.mapFields (·.setIfInBounds 1 (.ref T)) oe)) (x:IsO C ρ h a (.inst c d)):IsO C ρ h' a (.inst c d):=by
 have hd':(Obj.mapFields (·.setIfInBounds 1 (.ref T)) oe).data = .fields (vs.setIfInBounds 1 (.ref T)):=Obj.data_mapFields hd _
 have hc':(Obj.mapFields (·.setIfInBounds 1 (.ref T)) oe).cls = oe.cls:=Obj.cls_mapFields _ _
 have hdc:(Obj.mapFields (·.setIfInBounds 1 (.ref T)) oe).dict = oe.dict:=by obtain ⟨c,d,dt,sl⟩:=oe;cases dt <;> rfl
 refine x2a5 x fun ox dx p e q1 q2 q3=>?_;clear x
 rw [ho] at e;(refine jS e fun j=>?_;clear e;subst j)
 exact ⟨_,dx,p,ho',hc'.trans q1,by unfold notCls;rw [hd'],hdc.trans q3⟩
theorem Rel.retouch {n:Nat} {a:Addr} {h':Heap} (R:Rel C F ρ σ s) (ha:ρ.adr[n]? = some a) (hb:C.base.get? a = none) (tk:TK s.heap h') (hs:Heap.SameBut a s.heap h') (hl:∃ o,h'.get? a = some o)
  (H:∀ o,σ.at n = some o→IsO C ρ s.heap a o→IsO C ρ h' a o):Rel C F ρ σ { s with heap:=h' }:=by
 have hm:=List.mem_of_getElem? ha
 have h0:=R.fresh a hm
 have k:∀ b o,b≠a→s.heap.get? b = some o→h'.get? b = some o:=fun b o q e=>(hs.2 b q).trans e
 have hoff:∀ b,Off C ρ s.heap b→b≠a:=fun b x q=>x.adr (q▸hm)
 have ko:∀ b,Off C ρ s.heap b→∀ o,s.heap.get? b = some o→h'.get? b = some o:=fun b x o e=>k _ _ (hoff b x) e
 exact {
  bk:=fun b ob e=>k _ _ (fun z=>by rw [z,hb] at e;exact nS' e) (R.bk b ob e)
  bn:=R.bn
  keep:=fun b ob e q=>k _ _ (fun z=>by rw [z,h0] at e;exact nS' e) (R.keep b ob e q)
  fresh:=R.fresh
  nodup:=R.nodup
  live:=fun b hb=>by
   by_cases q:b = a
   ·subst q;exact hl
   ·exact x1a1 (R.live b hb) fun o e=>⟨o,k _ _ q e⟩
  nxt:=R.nxt
  syn:=R.syn
  led:=fun m om e=>by
   refine x1a2 (R.led m om e :) fun b p r=>?_
   refine ⟨b,p,?_⟩
   by_cases q:b = a
   ·subst q
    have:=idx_inj R.nodup p ha
    subst this
    exact H om e r
   ·exact r.mono (Va.le.refl _) tk fun o e=>k _ _ q e
  cur:=y12 (R.cur) fun x mm n m=>⟨x.mono (ko _ x),mm,Ns_keep (ko _ x) n,m.mono (Va.le.refl _) tk⟩
  fr:=fun p hp=>y22 (R.fr p hp) fun x y mm n m=>⟨⟨x.mono (ko _ x),y⟩,mm,Ns_keep (ko _ x) n,m.mono (Va.le.refl _) tk⟩
  held:=fun p hp=>x0a4 (R.held p hp) fun x y z w=>⟨x.mono (ko _ x),y,z,ko _ x _ w⟩
  tab:=x1a3 (R.tab.tab) fun ps x y z=>⟨⟨ps,k _ _ (Ne.symm (C.off_P h0)) x,y,fun pos cv e=>tk.code _ _ (z pos cv e)⟩⟩
  gens:=R.gens
  os:=R.os
  frames:=by
   have:∀ l,(∀ env∈l,∀ b,env.frame = some b→b≠a)→s.heap.FunFrames C.h0 l→h'.FunFrames C.h0 l:=by
    intro l
    induction l with
    | nil=>exact fun _ _=>trivial
    | cons env r ih =>
     (intro hn hz;refine x0a3 hz fun hk hm hr=>?_;refine x2a4 hm fun L ob hf hn' hob hd=>?_;clear hz hm)
     exact ⟨hk,⟨L,ob,hf,hn',k _ _ (hn env (.head _) L hf) hob,hd⟩,ih (fun e he=>hn e (.tail _ he)) hr⟩
   refine this _ (fun env he b hb=>?_) R.frames
   rcases R.frame_mem he hb with q | ⟨p,hp,q⟩
   ·exact q▸hoff _ R.cur.1
   ·exact q▸hoff _ (R.fr p hp).1.1
  fsL:=R.fsL }
theorem Rel.slots {h':Heap} (R:Rel C F ρ σ s) (hs:Heap.SlotsOnly (F.fs.filterMap (·.frame)) s.heap h'):Rel C F ρ σ { s with heap:=h' }∧TK s.heap h'∧∀ b,Off C ρ s.heap b→b≠F.L→(∀ p∈F.fr,b≠p.1)→h'.get? b = s.heap.get? b:=by
 have mem:∀ b∈F.fs.filterMap (·.frame),b = F.L∨∃ p∈F.fr,b = p.1:=fun b hb=>by
  refine x1a2 (List.mem_filterMap.mp hb :) fun env he hf=>?_
  exact R.fsL env he b hf
 have out:∀ b,b≠F.L→(∀ p∈F.fr,b≠p.1)→h'.get? b = s.heap.get? b:=fun b h1 h2=>hs.2.1 b fun hm=>by
  rcases mem b hm with q | ⟨p,hp,q⟩
  ·exact h1 q
  ·exact h2 p hp q
 have off:∀ b∈F.fs.filterMap (·.frame),Off C ρ s.heap b:=fun b hb=>by
  rcases mem b hb with q | ⟨p,hp,q⟩
  ·exact q▸R.cur.1
  ·exact q▸(R.fr p hp).1.1
 have keep:∀ b,(b∈F.fs.filterMap (·.frame)→False)→∀ o,s.heap.get? b = some o→h'.get? b = some o:=fun b hb o e=>(hs.2.1 b hb).trans e
 have live:∀ b,(∃ o,s.heap.get? b = some o)→∃ o,h'.get? b = some o:=fun b h=>x1a1 h fun o e=>x1a1 (hs.2.2 b o e) fun sl e'=>⟨_,e'⟩
 have ns:∀ b mm,s.heap.Ns b mm→h'.Ns b mm:=fun b mm h=>x3a3 h fun o es ep e d r=>x1a1 (hs.2.2 b o e) fun sl e'=>⟨_,es,ep,e',d,r⟩
 have tk:TK s.heap h':=⟨fun b items hz=>x1a3 hz fun o ho hc hz=>x1a1 hz fun n hd=>x1a1 (hs.2.2 b o ho) fun sl e'=>⟨_,e',hc,n,hd⟩,fun cv q hz=>x4a4 hz fun c o vs t e g d r=>x1a1 (hs.2.2 c o g) fun sl e'=>⟨c,_,vs,t,e,e',d,r⟩⟩
 have offm:∀ b,Off C ρ s.heap b→Off C ρ h' b:=fun b x=>⟨x.adr,x.h0,live b x.live,x.base⟩
 refine ⟨?_,tk,fun b x h1 h2=>out b h1 h2⟩
 exact {
  bk:=fun b ob e=>keep b (fun hm=>by rw [(off b hm).base] at e;exact nS' e) ob (R.bk b ob e)
  bn:=R.bn
  keep:=fun b ob e q=>keep b (fun hm=>by rw [(off b hm).h0] at e;exact nS' e) ob (R.keep b ob e q)
  fresh:=R.fresh
  nodup:=R.nodup
  live:=fun b hb=>live b (R.live b hb)
  nxt:=R.nxt
  syn:=R.syn
  led:=fun n o e=>x1a2 (R.led n o e) fun a p q=>⟨a,p,q.mono (Va.le.refl _) tk (keep a fun hm=>(off a hm).adr (List.mem_of_getElem? p))⟩
  cur:=y12 (R.cur) fun x mm n m=>⟨offm _ x,mm,ns _ _ n,m.mono (Va.le.refl _) tk⟩
  fr:=fun p hp=>y22 (R.fr p hp) fun x y mm n m=>⟨⟨offm _ x,y⟩,mm,ns _ _ n,m.mono (Va.le.refl _) tk⟩
  held:=fun p hp=>x0a4 (R.held p hp) fun x y z w=>⟨offm _ x,y,z,(out p.1 y z).trans w⟩
  tab:=x1a3 (R.tab.tab) fun ps x y z=>⟨⟨ps,keep _ (fun hm=>by refine x1a1 (C.hP :) fun o e=>?_;rw [(off _ hm).h0] at e;exact nS' e) _ x,y,fun pos cv e=>tk.code _ _ (z pos cv e)⟩⟩
  gens:=R.gens
  os:=R.os
  frames:=R.frames.of_slotsOnly hs
  fsL:=R.fsL }
end
end Mine
end
section
namespace Mine
structure TbAt (C:SC) (F:Fm) (ρ:Va) (h:Heap) (T:Addr) (x:Value):Prop where
 off:Off C ρ h T
 nL:T≠F.L
 nf:∀ q∈F.fr,T≠q.1
 nh:∀ q∈F.held,T≠q.1
 at_:∃ oT ts,h.get? T = some oT∧oT.data = .fields ts∧(∀ q t,ts[1]?≠some (.str q t))∧oT.cls≠.type "tuple"∧ts[3]? = some x
noncomputable def NotedIs (C:SC) (F:Fm) (ρ:Va) (σ:St) (h:Heap) (u:V) (e:Value) (x:Value):Prop:=∃ n a ox vs T,u = .loc n∧e = .ref a∧(∃ c d,σ.at n = some (.inst c d))∧ρ.adr[n]? = some a∧C.base.get? a = none∧h.get? a = some ox∧ox.data = .fields vs∧vs[1]? = some (.ref T)∧TbAt C F ρ h T x
section
variable {C:SC} {T:Tk} {F:Fm} {ρ:Va} {σ:St} {s:Shared} {A:Around} {env:Env} {E:Value→Shared→Prop}
theorem NotedIs.exc {h:Heap} {u:V} {e x:Value} (N:NotedIs C F ρ σ h u e x) (hx:x = .none∨x = rawInt F.L):ExcIs C F ρ σ h u e:=by
 refine x5a9 N fun n a ox vs T e1 e2 e0 e3 e4 e5 e6 e7 t=>?_;clear N
 refine x2a5 (t.at_ :) fun oT ts g1 g2 g3 g4 g5=>?_
 exact ⟨n,a,e1,e2,e0,e3,e4,ox,vs,e5,e6,(Array.getElem?_eq_some_iff.mp e7).1,.inr ⟨T,oT,ts,x,e7,t.off,t.nL,t.nf,t.nh,g1,g2,g3,g4,g5,hx⟩⟩
theorem entry_ok {n:Nat} {a:Addr} {oe:Obj} {vs:Array Value} {head:Value} {b:Bool} {Q:Unit→Shared→Prop} (hA:A.frames = some F.fs) (T1:Top1 F env) (R:Rel C F ρ σ s) (hin:∃ c d,σ.at n = some (.inst c d)) (ha:ρ.adr[n]? = some a) (hb:C.base.get? a = none)
  (he:s.heap.get? a = some oe) (hd:oe.data = .fields vs) (hsz:1 < vs.size) (hv1:∀ q t,vs[1]?≠some (.str q t))
  (hQ:∀ s',TK s.heap s'.heap→Rel C F ρ σ s'→NotedIs C F ρ σ s'.heap (.loc n) (.ref a) (rawInt F.L)→Q () s') :
  wpAny (model PW C.w) A (do let fr ← frameOf env;let pl ← entryPlaceOf F.L b;let t ← EntryCells.newEntry head fr .none (rawInt F.L) .none pl;setField (.ref a) 1 t) Q E s:=by
 refine x1a1 (T1.mine :) fun outer hfs=>?_
 refine wpAny_bind (wpAny_frameOf_fun (hfs▸hA) (hfs▸R.frames) T1.frame fun h₁ hs₁=>?_)
 rw [← hfs] at hs₁
 refine x0a3 (R.slots hs₁ :) fun R1 tk1 out1=>?_
 refine wpAny_bind (wpAny_entryPlaceOf fun pl hpl=>?_)
 unfold EntryCells.newEntry newFields
 refine wpAny_bind (wpAny_newObj_type ?_ (hpl.sizeOk5 _ _ _ _ _))
 have hm:=List.mem_of_getElem? ha
 have he₁:h₁.get? a = some oe:=by
  refine (hs₁.2.1 a fun hm2=>?_).trans he
  refine x1a2 (List.mem_filterMap.mp hm2 :) fun env2 he2 hf2=>?_
  rcases R.fsL env2 he2 a hf2 with q | ⟨p,hp,q⟩
  ·exact R.cur.1.adr (q▸hm)
  ·exact (R.fr p hp).1.1.adr (q▸hm)
 generalize htb:({ cls:=.type "traceback",dict:=none,data:=.fields ([head,.ref F.L,.none,rawInt F.L,.none]++(if pl.isEmpty then List.replicate 6 Value.none else pl)).toArray }:Obj) = ot
 have kp:=keep_push h₁ ot
 have R2:Rel C F ρ σ { s with heap:=h₁.push ot }:=R1.grow (s':={ s with heap:=h₁.push ot }) kp rfl rfl
 have he₂:=kp _ _ he₁
 have hTe:h₁.objs.size≠a:=Nat.ne_of_gt (Heap.lt_size he₁)
 refine wpAny_setField he₂ hd hsz ?_
 have he₃:=Heap.get?_update_self (Obj.mapFields (·.setIfInBounds 1 (Value.ref h₁.objs.size))) he₂ (Obj.isFreed_of_fields (Obj.data_mapFields hd _))
 have hT₂:(h₁.push ot).get? h₁.objs.size = some ot:=Heap.get?_push_size h₁ (by rw [← htb];rfl)
 have hT₃:=(Heap.get?_update_other (h₁.push ot) (Obj.mapFields (·.setIfInBounds 1 (Value.ref h₁.objs.size))) (Ne.symm hTe)).trans hT₂
 have hd₃:=Obj.data_mapFields hd (·.setIfInBounds 1 (Value.ref h₁.objs.size))
 have hc₃:=Obj.cls_mapFields oe (·.setIfInBounds 1 (Value.ref h₁.objs.size))
 have tk3:TK (h₁.push ot) ((h₁.push ot).update a (Obj.mapFields (·.setIfInBounds 1 (Value.ref h₁.objs.size)))):=by
  have k:∀ b o,b≠a→(h₁.push ot).get? b = some o→((h₁.push ot).update a (Obj.mapFields (·.setIfInBounds 1 (Value.ref h₁.objs.size)))).get? b = some o:=fun b o q e=>(Heap.get?_update_other _ _ (Ne.symm q)).trans e
  refine ⟨fun b items hz=>x1a3 hz fun o ho hc hz=>x1a1 hz fun n hdd=>⟨o,k _ _ (fun q=>?_) ho,hc,n,hdd⟩,fun cv q hz=>x4a4 hz fun c o vs2 t e g d r=>?_⟩
  ·rw [q,he₂] at ho;(refine jS ho fun j=>?_;clear ho;subst j);rw [hd] at hdd;cases hdd
  ·by_cases z:c = a
   ·rw [z,he₂] at g;(refine jS g fun j=>?_;clear g;subst j);rw [hd] at d;cases d;exact absurd r (hv1 q t)
   ·exact ⟨c,o,vs2,t,e,k _ _ z g,d,r⟩
 have R3:=R2.retouch ha hb tk3 (Heap.SameBut.update ..) ⟨_,he₃⟩ fun o eo x=>by
  refine x2a1 hin fun c d ec=>?_;clear hin
  rw [ec] at eo;(refine jS eo fun j=>?_;clear eo;subst j)
  exact x.field1 he₂ hd he₃
 refine x0a4 (R1.lt :) fun l1 l2 l3 l4=>?_
 refine x0a2 (R1.above :) fun a1 a2=>?_
 have hoff:Off C ρ ((h₁.push ot).update a (Obj.mapFields (·.setIfInBounds 1 (Value.ref h₁.objs.size)))) h₁.objs.size:=⟨fun q=>Nat.lt_irrefl _ (l1 _ q),a1 _ (Nat.le_refl _),⟨_,hT₃⟩,a2 _ (Nat.le_refl _)⟩
 refine hQ _ ((tk1.trans (TK.keeps kp)).trans tk3) R3 ⟨n,a,_,_,h₁.objs.size,rfl,rfl,hin,ha,hb,he₃,hd₃,by simp [hsz],
  { off:=hoff,nL:=Nat.ne_of_gt l2,nf:=fun q hq=>Nat.ne_of_gt (l3 q hq),nh:=fun q hq=>Nat.ne_of_gt (l4 q hq),at_:=⟨ot,_,hT₃,by rw [← htb],?_,by rw [← htb];simp,?_⟩ }⟩
 ·intro q t z
  simp at z
 ·simp
theorem noted_ok {u:V} {e:Value} {Q:Unit→Shared→Prop} (hA:A.frames = some F.fs) (T1:Top1 F env) (R:Rel C F ρ σ s) (hx:ExcIs C F ρ σ s.heap u e)
  (hQ:∀ s',TK s.heap s'.heap→Rel C F ρ σ s'→NotedIs C F ρ σ s'.heap u e (rawInt F.L)→Q () s'):wpAny (model PW C.w) A (noteFrame e env) Q E s:=by
 refine x2a6 hx fun n a qa qb hin ha hb hz=>?_;refine x2a4 hz fun ox vs ho hd hsz hcase=>?_;clear hx hz;subst qa;subst qb
 unfold noteFrame
 rw [T1.frame]
 rcases hcase with h1 | ⟨T,oT,ts,x,h1,hoff,hTL,hTf,hTh,hT,hdT,hs1,hcT,h3,hx⟩
 ·refine wpAny_bind (wpAny_field ho hd h1 ?_)
  rw [if_neg (by decide)]
  exact entry_ok hA T1 R hin ha hb ho hd hsz (fun q t z=>by rw [h1] at z;cases z) hQ
 ·refine wpAny_bind (wpAny_field ho hd h1 ?_)
  rw [if_pos (show (Value.ref T != Value.none) = true from by simp)]
  refine wpAny_bind (wpAny_field hT hdT h3 ?_)
  rcases hx with rfl | rfl
  ·rw [if_neg (show ¬ ((Value.none == rawInt F.L) = true) from by simp [rawInt])]
   refine wpAny_bind (wpAny_setField hT hdT (Array.getElem?_eq_some_iff.mp h3).1 ?_)
   have hne:T≠a:=fun q=>hoff.adr (q▸List.mem_of_getElem? ha)
   have k:∀ b o,b≠T→s.heap.get? b = some o→(s.heap.update T (Obj.mapFields (·.setIfInBounds 3 Value.none))).get? b = some o:=fun b o q e=>(Heap.get?_update_other _ _ (Ne.symm q)).trans e
   have tk:TK s.heap (s.heap.update T (Obj.mapFields (·.setIfInBounds 3 Value.none))):=TK.but k hT hcT (fun ws q t z=>by rw [hdT] at z;cases z;exact hs1 q t)
   have R1:Rel C F ρ σ { s with heap:=s.heap.update T (Obj.mapFields (·.setIfInBounds 3 Value.none)) } :=
    R.junk (s':={ s with heap:=s.heap.update T (Obj.mapFields (·.setIfInBounds 3 Value.none)) }) k tk hoff.h0 (C.off_P hoff.h0) hoff.adr hTL hTf hTh (fun env2 he2 q=>by
     rcases R.fsL env2 he2 T q with q | ⟨p,hp,q⟩
     ·exact hTL q
     ·exact hTf p hp q) hoff.base rfl rfl
   exact entry_ok (s:={ s with heap:=s.heap.update T (Obj.mapFields (·.setIfInBounds 3 Value.none)) }) hA T1 R1 hin ha hb (k _ _ (Ne.symm hne) ho) hd hsz (fun q t z=>by rw [h1] at z;cases z) fun s' t r n=>hQ s' (tk.trans t) r n
  ·rw [if_pos (show (rawInt F.L == rawInt F.L) = true from by simp)]
   exact wpAny_pure (hQ s (TK.refl _) R ⟨n,a,ox,vs,T,rfl,rfl,hin,ha,hb,ho,hd,h1,⟨hoff,hTL,hTf,hTh,⟨oT,ts,hT,hdT,hs1,hcT,h3⟩⟩⟩)
theorem flight_ok {u:V} {e x:Value} {fo:Option Addr} {Q:Unit→Shared→Prop} (R:Rel C F ρ σ s) (hx:NotedIs C F ρ σ s.heap u e x)
  (hQ:∀ s',TK s.heap s'.heap→Rel C F ρ σ s'→NotedIs C F ρ σ s'.heap u e (fo.elim .none fun f=>rawInt f)→Q () s'):wpAny (model PW C.w) A (setFlight e fo) Q E s:=by
 refine x5a9 hx fun n a ox vs T q5q q6q hin ha hb ho hd h1 t=>?_;clear hx;subst q5q;subst q6q
 refine x2a5 (t.at_ :) fun oT ts hT hdT hs1 hcT h3=>?_
 unfold setFlight
 refine wpAny_bind (wpAny_field ho hd h1 ?_)
 rw [if_pos (show (Value.ref T != Value.none) = true from by simp)]
 refine wpAny_setField hT hdT (Array.getElem?_eq_some_iff.mp h3).1 ?_
 have hne:T≠a:=fun q=>t.off.adr (q▸List.mem_of_getElem? ha)
 generalize (fo.elim Value.none fun f=>rawInt f) = y at *
 have k:∀ b o,b≠T→s.heap.get? b = some o→(s.heap.update T (Obj.mapFields (·.setIfInBounds 3 y))).get? b = some o:=fun b o q e=>(Heap.get?_update_other _ _ (Ne.symm q)).trans e
 have tk:TK s.heap (s.heap.update T (Obj.mapFields (·.setIfInBounds 3 y))):=TK.but k hT hcT (fun ws q t z=>by rw [hdT] at z;cases z;exact hs1 q t)
 have R1:Rel C F ρ σ { s with heap:=s.heap.update T (Obj.mapFields (·.setIfInBounds 3 y)) } :=
  R.junk (s':={ s with heap:=s.heap.update T (Obj.mapFields (·.setIfInBounds 3 y)) }) k tk t.off.h0 (C.off_P t.off.h0) t.off.adr t.nL t.nf t.nh (fun env2 he2 q=>by
   rcases R.fsL env2 he2 T q with q | ⟨p,hp,q⟩
   ·exact t.nL q
   ·exact t.nf p hp q) t.off.base rfl rfl
 have hT':=Heap.get?_update_self (Obj.mapFields (·.setIfInBounds 3 y)) hT (Obj.isFreed_of_fields (Obj.data_mapFields hdT _))
 refine hQ _ tk R1 ⟨n,a,ox,vs,T,rfl,rfl,hin,ha,hb,k _ _ (Ne.symm hne) ho,hd,h1,{ off:=⟨t.off.adr,t.off.h0,⟨_,hT'⟩,t.off.base⟩,nL:=t.nL,nf:=t.nf,nh:=t.nh,at_:=⟨_,_,hT',Obj.data_mapFields hdT _,?_,by rw [Obj.cls_mapFields];exact hcT,by simp [(Array.getElem?_eq_some_iff.mp h3).1]⟩ }⟩
 intro q t z
 rw [Array.getElem?_setIfInBounds_ne (by decide)] at z
 exact hs1 q t z
theorem leave_ok:LeaveOK C:=by
 intro A F env ρ σ s u e Q E hA T1 R hx hQ
 unfold leaving
 refine wpAny_bind (noted_ok hA T1 R hx fun s1 tk1 R1 N1=>flight_ok R1 N1 fun s2 tk2 R2 N2=>hQ s2 (tk1.trans tk2) R2 fun F' e1 e2 e3=>?_)
 refine x5a9 N2 fun n a ox vs T q5q q6q hin ha hb ho hd h1 t=>?_;clear N2;subst q5q;subst q6q
 have hfr:∀ q∈F'.fr,q∈F.fr:=fun q hq=>List.mem_of_mem_tail (e1▸hq)
 have hL:T≠F'.L:=by
  induction hf:F.fr using List.casesOn with
  | nil=>rw [hf] at e3;exact nS' e3
  | cons p r =>
   rw [hf] at e3
   have:p.1 = F'.L:=Option.some.inj e3
   rw [← this]
   exact t.nf p (by rw [hf];exact .head _)
 have t':TbAt C F' ρ s2.heap T .none:=⟨t.off,hL,fun q hq=>t.nf q (hfr q hq),fun q hq=>t.nh q (e2▸hq),t.at_⟩
 exact NotedIs.exc ⟨n,a,ox,vs,T,rfl,rfl,hin,ha,hb,ho,hd,h1,t'⟩ (.inl rfl)
theorem cameBack_ok {u:V} {e:Value} (T1:Top1 F env) (R:Rel C F ρ σ s) (hx:NotedIs C F ρ σ s.heap u e (rawInt F.L)) (hE:∀ s',TK s.heap s'.heap→Rel C F ρ σ s'→ExcIs C F ρ σ s'.heap u e→E e s'):cameBackBy (model PW C.w) A env E e s:=by
 unfold cameBackBy
 have hx':=hx
 refine x5a9 hx fun n a ox vs T q5q q6q hin ha hb ho hd h1 t=>?_;clear hx;subst q5q;subst q6q
 refine wpAny_bind (wpAny_field ho hd h1 ?_)
 rw [if_neg (show ¬ ((Value.ref T == Value.none) = true) from by simp)]
 refine flight_ok R hx' fun s' tk R' N'=>?_
 rw [T1.frame] at N'
 exact hE s' tk R' (N'.exc (.inr rfl))
end
end Mine
end
section
set_option backward.match.sparseCases true
namespace Mine
noncomputable def hold (F:Fm) (I:Addr) (o:Obj):Fm:=⟨F.fs,F.L,F.fr,(I,o) :: F.held⟩
structure ItOk (o:Obj):Prop where
 rec_:∃ ws,o.data = .fields ws∧∀ q t,ws[1]?≠some (.str q t)
 cls:∃ n,o.cls = .type n∧n≠"tuple"∧(["enumerate","zip","dict_itemiterator","dict_reverseitemiterator","odict_iterator","itertools.zip_longest","itertools.pairwise"].contains n) = false
section
variable {C:SC} {T:Tk} {F:Fm} {ρ ρ':Va} {σ σ':St} {h:Heap} {s s':Shared} {A:Around} {env:Env} {ks:Kd} {v:Ve} {E:Value→Shared→Prop} {cx:PySem.Expr→Mine.C} {cs:PySem.Stmt→CS} {r:Rc} {I:Addr} {o:Obj}
theorem Rel.unhold (R:Rel C (hold F I o) ρ σ s):Rel C F ρ σ s :=
 { R with held:=fun p hp=>R.held p (.tail _ hp) }
theorem Next.unhold (N:Next C (hold F I o) ρ h ρ' σ' s'):Next C F ρ h ρ' σ' s':=⟨N.pre,N.tk,N.rel.unhold⟩
theorem ExcIs.unhold {u:V} {e:Value} (x:ExcIs C (hold F I o) ρ σ h u e):ExcIs C F ρ σ h u e:=by
 refine x2a6 x fun n a e1 e2 e0 e3 e4 hz=>?_;refine x2a4 hz fun ox vs g1 g2 g3 g4=>?_;clear x hz
 refine ⟨n,a,e1,e2,e0,e3,e4,ox,vs,g1,g2,g3,?_⟩
 rcases g4 with g4 | ⟨T,oT,ts,x,q1,q2,q3,q4,q5,q6⟩
 ·exact .inl g4
 ·exact .inr ⟨T,oT,ts,x,q1,q2,q3,q4,fun q hq=>q5 q (.tail _ hq),q6⟩
theorem GoE.hold {ε:KX} (G:GoE C F ρ h ε E):GoE C (Mine.hold F I o) ρ h ε E:=fun _ _ _ _ _ a b c=>G _ _ _ _ _ a b.unhold c.unhold
theorem EnvOK.hold (H:EnvOK C A F env ks v ρ):EnvOK C A (Mine.hold F I o) env ks v ρ:={ H with }
theorem Top1.hold (H:Top1 F env):Top1 (Mine.hold F I o) env:=⟨H.mine,H.frame⟩
theorem Rel.holdNew {ob:Obj} (R:Rel C F ρ σ s) (hf:ob.isFreed = false) (t:Nat):Rel C (hold F s.heap.objs.size ob) ρ σ { s with heap:=s.heap.push ob,toks:=t }:=by
 have kp:=keep_push s.heap ob
 have R1:Rel C F ρ σ { s with heap:=s.heap.push ob,toks:=t }:=R.grow (s':={ s with heap:=s.heap.push ob,toks:=t }) kp rfl rfl
 refine x0a4 (R.lt :) fun l1 l2 l3 l4=>?_
 refine x0a2 (R.above :) fun a1 a2=>?_
 have hg:=Heap.get?_push_size s.heap hf
 refine { R1 with held:=fun p hp=>?_ }
 rcases List.mem_cons.mp hp with rfl | hp
 ·exact ⟨⟨fun q=>Nat.lt_irrefl _ (l1 _ q),a1 _ (Nat.le_refl _),⟨_,hg⟩,a2 _ (Nat.le_refl _)⟩,Nat.ne_of_gt l2,fun q hq=>Nat.ne_of_gt (l3 q hq),hg⟩
 ·exact R1.held p hp
theorem ItOk.tk {h h':Heap} (x:ItOk o) (ho:h.get? I = some o) (k:∀ b ob,b≠I→h.get? b = some ob→h'.get? b = some ob):TK h h':=by
 refine x1a2 (x.rec_ :) fun ws hd h1=>?_
 refine x1a3 (x.cls :) fun n hc hn _=>?_
 exact TK.but k ho (by rw [hc];intro q;exact hn (by cases q;rfl)) (fun vs q t z=>by rw [hd] at z;cases z;exact h1 q t)
theorem Rel.spent {t:Nat} {h':Heap} (hI:∀ p∈F.held,I≠p.1) (R:Rel C (hold F I o) ρ σ s) (x:ItOk o) (k:∀ b ob,b≠I→s.heap.get? b = some ob→h'.get? b = some ob):Rel C F ρ σ { s with heap:=h',toks:=t }∧TK s.heap h':=by
 refine x0a4 (R.held (I,o) (.head _) :) fun q1 q2 q3 q4=>?_
 have tk:=x.tk q4 k
 refine ⟨R.unhold.junk (s':={ s with heap:=h',toks:=t }) (b:=I) k tk q1.h0 (C.off_P q1.h0) q1.adr q2 q3 hI (fun env2 he2 q=>?_) q1.base rfl rfl,tk⟩
 rcases R.fsL env2 he2 I q with z | ⟨p,hp,z⟩
 ·exact q2 z
 ·exact q3 p hp z
theorem Rel.reheld {t:Nat} {h':Heap} {o':Obj} (hI:∀ p∈F.held,I≠p.1) (R:Rel C (hold F I o) ρ σ s) (x:ItOk o) (hs:Heap.SameBut I s.heap h') (ho':h'.get? I = some o') :
  Rel C (hold F I o') ρ σ { s with heap:=h',toks:=t }∧TK s.heap h':=by
 refine x0a4 (R.held (I,o) (.head _) :) fun q1 q2 q3 q4=>?_
 refine x0a2 (R.spent (t:=t) hI x fun b ob q e=>(hs.2 b q).trans e :) fun R1 tk=>?_
 refine ⟨{ R1 with held:=fun p hp=>?_ },tk⟩
 rcases List.mem_cons.mp hp with rfl | hp
 ·exact ⟨⟨q1.adr,q1.h0,⟨_,ho'⟩,q1.base⟩,q2,q3,ho'⟩
 ·exact R1.held p hp
theorem own_noop {target:PySem.Expr} {x:Value} {Q:Unit→Shared→Prop} (x':ItOk o) (ho:s.heap.get? I = some o) (hQ:Q () s):wpAny (model PW C.w) A (letOwnedTupleGo target (.ref I) x) Q E s:=by
 refine x1a2 (x'.rec_ :) fun ws hd _=>?_
 refine x1a3 (x'.cls :) fun n hc _ hn=>?_
 have go:∀ a,wpAny (model PW C.w) A (do
   let o ← load I
   match o.cls,o.data with
   | .type n,.fields vs =>
    if ["enumerate","zip","dict_itemiterator","dict_reverseitemiterator","odict_iterator","itertools.zip_longest","itertools.pairwise"].contains n && vs[0]? == some (rawInt a) then
     rule "for.unpacks-the-owned-tuple"
     updateField I 0 .none
   | _,_=>pure ()) Q E s:=fun a=>by
  refine wpAny_bind (wpAny_load ho ?_)
  rw [hc,hd]
  dsimp only
  rw [hn]
  rw [Bool.false_and,if_neg Bool.false_ne_true]
  exact wpAny_pure hQ
 unfold letOwnedTupleGo
 induction target using Expr.casesOn <;> first | exact wpAny_pure hQ | (induction x using Value.casesOn <;> first | exact wpAny_pure hQ | exact go _)
theorem noted_go {ε:KX} (hA:A.frames = some F.fs) (T1:Top1 F env) (GE:GoE C F ρ h ε E):GoE C F ρ h ε (notedBy (model PW C.w) A env fun e s'=>cameBackBy (model PW C.w) A env E e s'):=by
 intro ρ' σ' s' u e hε N hx
 exact noted_ok hA T1 N.rel hx fun s1 tk R1 N1=>cameBack_ok T1 R1 N1 fun s2 tk2 R2 hx2=>GE _ _ _ _ _ hε ⟨N.pre,(N.tk.trans tk).trans tk2,R2⟩ hx2
theorem forLoop_ok (G:Gr C T) (hc:WCx C ks r cx) {bd:Rc→Ve→St→KS→KX→Bool} {body:List PySem.Stmt} (hs:WS C ks (fun v σ κ ε=>bd r v σ κ ε) (execs body)) {target:PySem.Expr} {N:Nat} {go:Nat→St→Bool} {It:Nat→Obj→Prop} {κ:KS} {ε:KX} {Q:Flow→Shared→Prop} (hI:∀ p∈F.held,I≠p.1)
  (itok:∀ i o,It i o→ItOk o) (H:EnvOK C A F env ks v ρ) (T1:Top1 F env) (GS:GoS C F ρ h κ Q) (GE:GoE C F ρ h ε E) (bound:∀ i σ',go i σ' = true→i≤N)
  (step:∀ i σ' ρ' s' o,go i σ' = true→Rel C (Mine.hold F I o) ρ' σ' s'→It i o→ρ.le ρ'→TK h s'.heap→∀ (K:Option Value→Shared→Prop) (E':Value→Shared→Prop),
   (∀ h',Heap.ExtBut I s'.heap h'→κ .next σ' = true→K none { s' with heap:=h' }) →
   (∀ u x h' tk o',It (i + 1) o'→h'.get? I = some o'→Heap.SameBut I s'.heap h'→IsV ρ' s'.heap u x→(asgC T cx ks target).a r v u σ' (fun σ2=>bd r v σ2 (forK κ (fun σ3=>go (i + 1) σ3)) ε) ε = true→K (some x) { s' with heap:=h',toks:=tk }) →
   wpAny (model PW C.w) A (pyNext (.ref I)) K E' s')
  (start:go 0 σ = true) (R:Rel C (Mine.hold F I o) ρ' σ s) (hit:It 0 o) (hp:ρ.le ρ') (htk:TK h s.heap) :
  codeAny (model PW C.w) A (.forLoop target (.ref I) body [] env) (fun r s'=>match r with | .ok f=>Q f s' | .error e=>cameBackBy (model PW C.w) A env E e s') s:=by
 refine codeAny_forLoop_any (fun k s'=>∃ i σ' ρ' o,k = N + 1 - i∧go i σ' = true∧Rel C (Mine.hold F I o) ρ' σ' s'∧It i o∧ρ.le ρ'∧TK h s'.heap) ?_ (N + 1) (m4a6 0 σ ρ' o rfl start R hit hp htk)
 intro k s' hz
 refine x4a6 hz fun i σ' ρ' o qm hgo R' hit' hp' htk'=>?_;clear hz;subst qm
 have hb:=bound i σ' hgo
 have xo:=itok i o hit'
 refine step i σ' ρ' s' o hgo R' hit' hp' htk' _ _ (fun h' hx hκ=>?_) (fun u x h' tk o' hit1 ho' hs' hu hk=>?_)
 ·refine x0a2 (R'.spent (h':=h') (t:=s'.toks) hI xo fun b ob q e=>hx b ob q e :) fun R1 tk1=>?_
  exact wpAny_execs_nil (GS _ _ _ _ _ hκ ⟨hp',htk'.trans tk1,R1⟩ .next)
 ·refine x0a2 (R'.reheld (h':=h') (t:=tk) hI xo hs' ho' :) fun R1 tk1=>?_
  have N1:Next C F ρ h ρ' σ' { s' with heap:=h',toks:=tk }:=⟨hp',htk'.trans tk1,R1.unhold⟩
  have GE1:GoE C (Mine.hold F I o') ρ' h' ε (notedBy (model PW C.w) A env fun e s''=>cameBackBy (model PW C.w) A env E e s'') :=
   noted_go (h:=h') H.frames T1.hold (GE.next (s':={ s' with heap:=h',toks:=tk }) N1).hold
  refine own_noop (itok _ _ hit1) ho' ?_
  refine asg_ok G hc target v u σ' _ ε hk A (Mine.hold F I o') env ρ' { s' with heap:=h',toks:=tk } x _ _ (H.mono hp').hold R1 (hu.mono (Va.le.refl _) tk1) ?_ GE1
  intro ρ2 σ2 s2 hk2 N2
  refine hs v σ2 _ ε hk2 A (Mine.hold F I o') env ρ2 s2 _ _ ((H.mono hp').mono N2.pre).hold T1.hold N2.rel ?_ (GE1.next N2)
  intro ρ3 σ3 s3 fl f hf N3 hi
  have hlt:N + 1 - (i + 1) < N + 1 - i:=by lia
  have fin:go (i + 1) σ3 = true→∃ m,m < N + 1 - i∧∃ i' σ' ρ' o,m = N + 1 - i'∧go i' σ' = true∧Rel C (Mine.hold F I o) ρ' σ' s3∧It i' o∧ρ.le ρ'∧TK h s3.heap:=fun hg =>
   ⟨_,hlt,m4a6 (i + 1) σ3 ρ3 o' rfl hg N3.rel hit1 ((hp'.trans N2.pre).trans N3.pre) (((htk'.trans tk1).trans N2.tk).trans N3.tk)⟩
  cases hi with
  | next=>exact fin hf
  | cont=>exact fin hf
  | ret hv=>exact GS _ _ _ _ _ hf ((N1.trans N2.unhold).trans N3.unhold) (.ret hv)
end
end Mine
end
section
namespace Mine
section
variable {C:SC} {T:Tk} {F:Fm} {ρ ρ':Va} {σ σ':St} {h:Heap} {s s':Shared} {A:Around} {env:Env} {ks:Kd} {v:Ve} {E:Value→Shared→Prop} {cx:PySem.Expr→Mine.C} {cs:PySem.Stmt→CS} {r:Rc} {I:Addr} {o:Obj}
theorem while_ok (hc:WCx C ks r cx) (hs:WCs C ks r cs) {t:PySem.Expr} {body:List PySem.Stmt} {n:Nat} {p:Pos}:WSt C ks r (.While t body [] p) ⟨whileL cx cs t body n⟩:=by
 intro v σ κ ε h A F env ρ s Q E H T1 R GS GE
 have GE':=noted_go H.frames T1 GE
 refine wpAny_While (codeAny_whileLoop (fun k s'=>∃ ρ' σ',whileL cx cs t body k r v σ' κ ε = true∧Next C F ρ s.heap ρ' σ' s') ?_ n ⟨ρ,σ,h,.here R⟩)
 rintro k s1 ⟨ρ1,σ1,h1,N1⟩
 cases k with
 | zero=>exact ft' h1
 | succ k =>
  have h2:(cx t).t r v σ1 (fun b σ'=>match b with
   | true=>css cs body r v σ' (forK κ (fun σ''=>whileL cx cs t body k r v σ'' κ ε)) ε
   | false=>κ .next σ') ε = true:=h1
  refine (hc.ok t).t v σ1 _ ε h2 A F env ρ1 s1 _ _ (H.mono N1.pre) N1.rel ?_ (GE'.next N1)
  intro ρ2 σ2 s2 b hb N2
  have N12:=N1.trans N2
  induction b using Bool.casesOn with
  | false=>exact wpAny_execs_nil (GS _ _ _ _ _ hb N12 .next)
  | true =>
   rw [if_pos rfl]
   refine css_ok hs body v σ2 _ ε hb A F env ρ2 s2 _ _ (H.mono N12.pre) T1 N12.rel ?_ (GE'.next N12)
   intro ρ3 σ3 s3 fl f hf N3 hi
   cases hi with
   | next=>exact ⟨k,Nat.lt_succ_self _,ρ3,σ3,hf,N12.trans N3⟩
   | cont=>exact ⟨k,Nat.lt_succ_self _,ρ3,σ3,hf,N12.trans N3⟩
   | ret hv=>exact GS _ _ _ _ _ hf (N12.trans N3) (.ret hv)
theorem forL_at {t:CT} {bd:Rc→Ve→St→KS→KX→Bool} {l:List V} {κ:KS} {ε:KX} {i:Nat} (hg:ifB (Nat.ble i l.length) (forL bd t (l.drop i) r v σ κ ε) false = true) :
  i≤l.length∧((l[i]? = none∧κ .next σ = true)∨∃ u,l[i]? = some u∧t.a r v u σ (fun σ2=>bd r v σ2 (forK κ (fun σ3=>ifB (Nat.ble (i + 1) l.length) (forL bd t (l.drop (i + 1)) r v σ3 κ ε) false)) ε) ε = true):=by
 refine x0a2 (ifB_ok hg :) fun h1 h2=>?_
 have hle:=Nat.le_of_ble_eq_true h1
 refine ⟨hle,?_⟩
 induction e:l.drop i using List.casesOn with
 | nil =>
  rw [e] at h2
  have:l.length≤i:=List.drop_eq_nil_iff.mp e
  exact .inl ⟨List.getElem?_eq_none this,h2⟩
 | cons u us =>
  rw [e] at h2
  have hi:i < l.length:=by
   have:=congrArg List.length e
   rw [List.length_drop,List.length_cons] at this
   lia
  have hd:l.drop (i + 1) = us:=by rw [← List.drop_drop,e];rfl
  refine .inr ⟨u,?_,?_⟩
  ·have:=List.drop_eq_getElem_cons hi
   rw [e] at this
   injection this with h3 _
   rw [h3];exact List.getElem?_eq_getElem hi
  ·have hb:Nat.ble (i + 1) l.length = true:=Nat.ble_eq_true_of_le hi
   rw [hb,hd]
   exact h2
theorem forTup_ok (G:Gr C T) (hc:WCx C ks r cx) {bd:Rc→Ve→St→KS→KX→Bool} {body:List PySem.Stmt} (hs:WS C ks (fun v σ κ ε=>bd r v σ κ ε) (execs body)) {target:PySem.Expr} {l:List V} {a:Addr} {vs:List Value} {κ:KS} {ε:KX} {Q:Flow→Shared→Prop} (H:EnvOK C A F env ks v ρ) (T1:Top1 F env) (R:Rel C F ρ σ s)
  (ht:IsTup s.heap a vs.toArray) (hl:IsVs ρ s.heap l vs) (GS:GoS C F ρ s.heap κ Q) (GE:GoE C F ρ s.heap ε E) (hg:forL bd (asgC T cx ks target) l r v σ κ ε = true) :
  wpAny (model PW C.w) A (pyIter (.ref a)) (fun it s₂=>codeAny (model PW C.w) A (.forLoop target it body [] env) (fun r s'=>match r with | .ok f=>Q f s' | .error e=>cameBackBy (model PW C.w) A env E e s') s₂) E s:=by
 refine wpAny_pyIter_tuple ht ?_
 refine x0a4 (R.lt :) fun l1 l2 l3 l4=>?_
 have kp:=keep_push s.heap { cls:=.type "tuple_iterator",data:=.fields #[.ref a,.int 0 0] }
 refine forLoop_ok (N:=l.length) (go:=fun i σ'=>ifB (Nat.ble i l.length) (forL bd (asgC T cx ks target) (l.drop i) r v σ' κ ε) false)
  (It:=fun i o=>o.cls = .type "tuple_iterator"∧o.data = .fields #[.ref a,.int (i:Nat) 0]) G hc hs (fun p hp=>Nat.ne_of_gt (l4 p hp)) ?_ H T1 GS GE (fun i σ' h=>(forL_at h).1) ?_ ?_ (R.holdNew rfl s.toks) ⟨rfl,rfl⟩ (Va.le.refl _) (TK.keeps kp)
 ·rintro i o ⟨hc,hd⟩
  exact ⟨⟨_,hd,fun q t z=>by simp at z⟩,⟨_,hc,by decide,by decide⟩⟩
 ·rintro i σ' ρ' s' o hg R' ⟨hoc,hod⟩ hp htk K E' hn hsm
  refine x0a4 (R'.held (_,o) (.head _) :) fun _ _ _ hat=>?_
  have ht':=htk.tup _ _ ht
  have hit:s'.heap.IsTupleIter s.heap.objs.size a i:=⟨o,hat,hoc,hod⟩
  refine x0a2 (forL_at hg :) fun hle hcase=>?_
  rcases hcase with ⟨he,hκ⟩ | ⟨u,hu,hgo⟩
  ·have:vs.toArray[i]? = none:=by
    rw [List.getElem?_toArray,List.getElem?_eq_none_iff,← hl.length];exact List.getElem?_eq_none_iff.mp he
   exact wpAny_pyNext_tuple_end H.hand hit ht' this fun h' hx=>hn h' hx hκ
  ·refine x1a2 (hl.get hu :) fun x hx hi=>?_
   refine wpAny_pyNext_tuple_item hit ht' (x:=x) (by simpa using hx) fun h' hit' hs'=>?_
   refine x1a3 hit' fun o' ho' hc' hd'=>?_;clear hit'
   exact hsm u x h' s'.toks o' ⟨hc',hd'⟩ ho' hs' (hi.mono hp htk) hgo
 ·show ifB (Nat.ble 0 l.length) (forL bd (asgC T cx ks target) (l.drop 0) r v σ κ ε) false = true
  rw [Nat.ble_eq_true_of_le (Nat.zero_le _),List.drop_zero]
  exact hg
theorem rangeL_eq:∀ (n:Nat) (lo:Int),rangeL lo n = (List.range n).map fun i=>V.int (lo + (i:Nat))
 | 0,_=>rfl
 | n + 1,lo=>by
  show V.int lo :: rangeL (lo + 1) n = _
  rw [rangeL_eq n,List.range_succ_eq_map,List.map_cons,List.map_map]
  simp only [Int.natCast_zero,Int.add_zero,List.cons.injEq,true_and]
  refine List.map_congr_left fun i _=>?_
  show V.int (lo + 1 + (i:Nat)) = V.int (lo + ((i + 1:Nat):Int))
  congr 1;lia
theorem rangeL_get {n i:Nat} {lo:Int} {u:V} (h:(rangeL lo n)[i]? = some u):i < n∧u = .int (lo + (i:Nat)):=by
 rw [rangeL_eq,List.getElem?_map] at h
 induction e:(List.range n)[i]? using Option.casesOn with
 | none=>rw [e] at h;exact nS' h
 | some j =>
  rw [e] at h
  refine x1a1 (List.getElem?_eq_some_iff.mp e :) fun h1 h2=>?_
  rw [List.length_range] at h1
  rw [List.getElem_range] at h2
  (refine jS h fun j=>?_;clear h;subst j)
  exact ⟨h1,by rw [h2]⟩
theorem rangeL_length {n:Nat} {lo:Int}:(rangeL lo n).length = n:=by rw [rangeL_eq,List.length_map,List.length_range]
theorem forRng_ok (G:Gr C T) (hc:WCx C ks r cx) {bd:Rc→Ve→St→KS→KX→Bool} {body:List PySem.Stmt} (hs:WS C ks (fun v σ κ ε=>bd r v σ κ ε) (execs body)) {target:PySem.Expr} {k:Int} {a:Addr} {t u w:Tok} {κ:KS} {ε:KX} {Q:Flow→Shared→Prop} (H:EnvOK C A F env ks v ρ) (T1:Top1 F env) (R:Rel C F ρ σ s)
  (hr:IsRange s.heap a 0 k 1 t u w) (hk:-1000000≤k∧k≤1000000) (GS:GoS C F ρ s.heap κ Q) (GE:GoE C F ρ s.heap ε E) (hg:forL bd (asgC T cx ks target) (rangeL 0 (natI k)) r v σ κ ε = true) :
  wpAny (model PW C.w) A (pyIter (.ref a)) (fun it s₂=>codeAny (model PW C.w) A (.forLoop target it body [] env) (fun r s'=>match r with | .ok f=>Q f s' | .error e=>cameBackBy (model PW C.w) A env E e s') s₂) E s:=by
 have e62:(2:Int) ^ 62 = 4611686018427387904:=by decide
 refine wpAny_pyIter_range hr (small_one (by lia) (by lia) (by lia) (by lia)) ?_
 rw [rangeSize_one]
 refine x0a4 (R.lt :) fun l1 l2 l3 l4=>?_
 generalize hob:({ cls:=.type "range_iterator",data:=.fields #[rawInt 0,rawInt (if 0 < k then k - 0 else 0),rawInt 1] }:Obj) = ob
 have kp:=keep_push s.heap ob
 have hn:∀ i:Nat,((natI k:Int) - i) = (if 0 < k then k - 0 else 0) - i:=fun i=>by rw [natI_eq];split <;> lia
 generalize hl:rangeL 0 (natI k) = l at hg
 have hlen:l.length = natI k:=by rw [← hl,rangeL_length]
 refine forLoop_ok (N:=l.length) (go:=fun i σ'=>ifB (Nat.ble i l.length) (forL bd (asgC T cx ks target) (l.drop i) r v σ' κ ε) false)
  (It:=fun i o=>o = { cls:=.type "range_iterator",data:=.fields #[rawInt (i:Nat),rawInt ((natI k:Int) - i),rawInt 1] }) G hc hs (fun p hp=>Nat.ne_of_gt (l4 p hp)) ?_ H T1 GS GE (fun i σ' h=>(forL_at h).1) ?_ ?_ (R.holdNew (by rw [← hob];rfl) s.toks) ?_ (Va.le.refl _) (TK.keeps kp)
 ·rintro i o rfl
  exact ⟨⟨_,rfl,fun q t z=>by simp [rawInt] at z⟩,⟨_,rfl,by decide,by decide⟩⟩
 ·rintro i σ' ρ' s' o hg R' rfl hp htk K E' hn' hsm
  refine x0a4 (R'.held (_,_) (.head _) :) fun _ _ _ hat=>?_
  refine x0a2 (forL_at hg :) fun hle hcase=>?_
  rcases hcase with ⟨he,hκ⟩ | ⟨u,hu,hgo⟩
  ·have h1:=List.getElem?_eq_none_iff.mp he
   exact wpAny_pyNext_range_end (x:=(i:Nat)) (left:=(natI k:Int) - i) (step:=1) H.hand hat (by rw [hlen] at h1;lia) fun h' hx=>hn' h' hx hκ
  ·rw [← hl] at hu
   refine x0a2 (rangeL_get hu :) fun h1 q1q=>?_;subst q1q
   refine wpAny_pyNext_range_item (x:=(i:Nat)) (left:=(natI k:Int) - i) (step:=1) hat (by lia) fun h' hit' hs'=>?_
   have e1:((i:Nat):Int) + 1 = ((i + 1:Nat):Int):=rfl
   have e2:(natI k:Int) - (i:Nat) - 1 = (natI k:Int) - ((i + 1:Nat):Int):=Int.sub_sub ..
   rw [e1,e2] at hit'
   exact hsm _ _ h' (s'.toks + 1) _ rfl hit' hs' (by rw [Int.zero_add];exact .int) hgo
 ·show ifB (Nat.ble 0 l.length) (forL bd (asgC T cx ks target) (l.drop 0) r v σ κ ε) false = true
  rw [Nat.ble_eq_true_of_le (Nat.zero_le _),List.drop_zero]
  exact hg
 ·rw [← hob]
  have:=hn 0
  simp only [Int.natCast_zero,Int.sub_zero] at this ⊢
  rw [this]
theorem forLst_ok (G:Gr C T) (hc:WCx C ks r cx) {bd:Rc→Ve→St→KS→KX→Bool} {body:List PySem.Stmt} (hs:WS C ks (fun v σ κ ε=>bd r v σ κ ε) (execs body)) {target:PySem.Expr} {m:Nat} {a:Addr} {κ:KS} {ε:KX} {Q:Flow→Shared→Prop} (H:EnvOK C A F env ks v ρ) (T1:Top1 F env) (R:Rel C F ρ σ s)
  (ha:ρ.adr[m]? = some a) (GS:GoS C F ρ s.heap κ Q) (GE:GoE C F ρ s.heap ε E) (hg:forLs bd (asgC T cx ks target) m 64 0 r v σ κ ε = true) :
  wpAny (model PW C.w) A (pyIter (.ref a)) (fun it s₂=>codeAny (model PW C.w) A (.forLoop target it body [] env) (fun r s'=>match r with | .ok f=>Q f s' | .error e=>cameBackBy (model PW C.w) A env E e s') s₂) E s:=by
 have unf:∀ i σ',forLs bd (asgC T cx ks target) m (64 - i) i r v σ' κ ε = true→i < 64∧∃ xs,σ'.at m = some (.list xs)∧((xs[i]? = none∧κ .next σ' = true) ∨
   ∃ u,xs[i]? = some u∧(asgC T cx ks target).a r v u σ' (fun σ2=>bd r v σ2 (forK κ (fun σ3=>forLs bd (asgC T cx ks target) m (64 - (i + 1)) (i + 1) r v σ3 κ ε)) ε) ε = true):=by
  intro i σ' h
  cases e:64 - i with
  | zero=>rw [e] at h;exact ft' h
  | succ f =>
   rw [e] at h
   have e2:64 - (i + 1) = f:=by rw [Nat.sub_add_eq,e];rfl
   refine ⟨Nat.sub_pos_iff_lt.mp (e▸Nat.succ_pos f),?_⟩
   have h':nthAt m i σ' (κ .next σ') (fun u=>(asgC T cx ks target).a r v u σ' (fun σ2=>bd r v σ2 (forK κ (fun σ3=>forLs bd (asgC T cx ks target) m f (i + 1) r v σ3 κ ε)) ε) ε) = true:=h
   unfold nthAt at h'
   induction eo:σ'.at m using Option.casesOn with
   | none=>rw [eo] at h';exact ft' h'
   | some o =>
    rw [eo] at h'
    induction o using O.casesOn with
    | list xs =>
     refine ⟨xs,rfl,?_⟩
     dsimp only at h'
     rw [nth_eq] at h'
     induction en:xs[i]? using Option.casesOn with
     | none=>rw [en] at h';exact .inl ⟨rfl,h'⟩
     | some u=>rw [en] at h';rw [e2];exact .inr ⟨u,rfl,h'⟩
    | _=>exact ft' h'
 refine x1a2 ((unf 0 σ hg).2 :) fun xs0 hx0 _=>?_
 refine x1a2 (R.thing ha hx0 :) fun vs0 hl0 _=>?_
 refine wpAny_pyIter_list hl0.isList ?_
 refine x0a4 (R.lt :) fun l1 l2 l3 l4=>?_
 have kp:=keep_push s.heap { cls:=.type "list_iterator",data:=.fields #[.ref a,.int 0 0] }
 refine forLoop_ok (N:=64) (go:=fun i σ'=>forLs bd (asgC T cx ks target) m (64 - i) i r v σ' κ ε)
  (It:=fun i o=>o.cls = .type "list_iterator"∧o.data = .fields #[.ref a,.int (i:Nat) 0]) G hc hs (fun p hp=>Nat.ne_of_gt (l4 p hp)) ?_ H T1 GS GE (fun i σ' h=>Nat.le_of_lt (unf i σ' h).1) ?_ hg (R.holdNew rfl s.toks) ⟨rfl,rfl⟩ (Va.le.refl _) (TK.keeps kp)
 ·rintro i o ⟨hc,hd⟩
  exact ⟨⟨_,hd,fun q t z=>by simp at z⟩,⟨_,hc,by decide,by decide⟩⟩
 ·rintro i σ' ρ' s' o hg R' ⟨hoc,hod⟩ hp htk K E' hn hsm
  refine x0a4 (R'.held (_,o) (.head _) :) fun _ _ _ hat=>?_
  have hit:s'.heap.IsListIter s.heap.objs.size a i:=⟨o,hat,hoc,hod⟩
  obtain ⟨_,xs,hx,hcase⟩:=unf i σ' hg
  refine x1a2 (R'.thing (getpre hp.adr ha) hx :) fun vs hl hvs=>?_
  rcases hcase with ⟨he,hκ⟩ | ⟨u,hu,hgo⟩
  ·have:vs.toArray[i]? = none:=by
    rw [List.getElem?_toArray,List.getElem?_eq_none_iff,← hvs.length];exact List.getElem?_eq_none_iff.mp he
   exact wpAny_pyNext_list_end H.hand hit hl.isList this fun h' hx=>hn h' hx hκ
  ·refine x1a2 (hvs.get hu :) fun x hx hi=>?_
   refine wpAny_pyNext_list_item hit hl.isList (x:=x) (by simpa using hx) fun h' hit' hs'=>?_
   refine x1a3 hit' fun o' ho' hc' hd'=>?_;clear hit'
   exact hsm u x h' s'.toks o' ⟨hc',hd'⟩ ho' hs' hi hgo
end
end Mine
end
section
namespace Mine
section
variable {C:SC} {T:Tk} {F:Fm} {ρ ρ':Va} {σ σ':St} {h:Heap} {s s':Shared} {A:Around} {env:Env} {ks:Kd} {v:Ve} {E:Value→Shared→Prop} {cx:PySem.Expr→Mine.C} {cs:PySem.Stmt→CS} {r:Rc} {I:Addr} {o:Obj}
theorem forI_ok (G:Gr C T) (hc:WCx C ks r cx) (hs:WCs C ks r cs) {t e:PySem.Expr} {body:List PySem.Stmt} {p:Pos}:WSt C ks r (.For t e body [] p) (sForI T cx ks cs t e body):=by
 intro v σ κ ε h A F env ρ s Q E H T1 R GS GE
 have h':(cx e).x r v σ (fun u σ'=>forV (css cs body) (asgC T cx ks t) u r v σ' κ ε) ε = true:=h
 by_cases hset:∃ a b c,e = .Set a b c
 ·refine x3a1 hset fun a b c q3q=>?_;clear hset;subst q3q
  rw [hc.set] at h'
  exact ft' h'
 ·have hf:∀ x,foldedSetIterable e env x = pure x:=fun x=>by
   induction e using Expr.casesOn <;> first | rfl | exact absurd ⟨_,_,_,rfl⟩ hset
  refine wpAny_For ((hc.ok e).x v σ _ ε h' A F env ρ s _ E H R ?_ GE) hf
  intro ρ1 σ1 s1 u x hu N hx
  induction hx using IsV.casesOn with
  | @tup l a vs ht hl=>exact forTup_ok G hc (css_ok hs body) (H.mono N.pre) T1 N.rel ht hl (GS.next N) (GE.next N) hu
  | @loc n a hn=>exact forLst_ok G hc (css_ok hs body) (H.mono N.pre) T1 N.rel hn (GS.next N) (GE.next N) hu
  | _=>exact ft' hu
theorem isRange_ok {f:PySem.Expr} (h:isRange T ks f = true):∃ x p,f = .Name x p∧isGlob (lk ks (key x)) = true∧T.tx.glob.get (key x) = some (.ty .range):=by
 induction f using Expr.casesOn with
 | Name x p =>
  have h':(match isGlob (lk ks (key x)) with | true=>isRng (T.tx.glob.get (key x)) | false=>false) = true:=h
  induction e:isGlob (lk ks (key x)) using Bool.casesOn with
  | false=>rw [e] at h';exact ft' h'
  | true =>
   rw [e] at h'
   refine ⟨x,p,rfl,e,?_⟩
   dsimp only at h'
   induction eg:T.tx.glob.get (key x) using Option.casesOn with
   | none=>rw [eg] at h';exact ft' h'
   | some u =>
    rw [eg] at h'
    induction u using V.casesOn with
    | ty t=>induction t using TY.casesOn <;> first | rfl | exact ft' h'
    | _=>exact ft' h'
 | _=>exact ft' h
theorem rangeCall (G:Gr C T) (hc:WCx C ks r cx) {f:PySem.Expr} {args:List PySem.Expr} {pos:Pos} (hf:isRange T ks f = true) (hs:noStar args = true) {ε:KX} {fin:List V→Ve→St→Bool} (h:evs cx args r v σ (fun vs σ'=>rangeOf vs fun l=>fin l v σ') ε = true)
  (H:EnvOK C A F env ks v ρ) (R:Rel C F ρ σ s) (GE:GoE C F ρ s.heap ε E) {Q:Value→Shared→Prop}
  (hQ:∀ ρ' σ' s' k a t u w,fin (rangeL 0 (natI k)) v σ' = true→Next C F ρ s.heap ρ' σ' s'→IsRange s'.heap a 0 k 1 t u w→-1000000≤k∧k≤1000000→Q (.ref a) s'):wpAny (model PW C.w) A (eval (.Call f args [] pos) env) Q E s:=by
 refine x2a3 (isRange_ok hf :) fun x p q2q hg ht=>?_;subst q2q
 rw [eval_Call_plain (f:=.Name x p) (by intro o a p q;cases q)]
 have hn:(cNm T ks (key x)).x r v σ (fun u σ'=>andB (isRng (some u)) (evs cx args r v σ' (fun vs σ''=>rangeOf vs fun l=>fin l v σ'') ε)) (fun _ _=>false) = true:=by
  unfold cNm
  rw [hg,ht]
  exact h
 refine wpAny_bind ((name_ok (p:=p) G (r:=r)).x v σ _ (fun _ _=>false) hn A F env ρ s _ E H R ?_ (fun _ _ _ _ _ q=>(Bool.false_ne_true q).elim))
 intro ρ1 σ1 s1 u gv hu N hv
 have hr:u = .ty .range:=by
  induction u using V.casesOn with
  | ty t=>induction t using TY.casesOn <;> first | rfl | exact ft' hu
  | _=>exact ft' hu
 subst hr
 cases hv
 have hu':evs cx args r v σ1 (fun vs σ''=>rangeOf vs fun l=>fin l v σ'') ε = true:=hu
 refine callWith_of (P:=fun h=>Kept (model PW C.w) h (.type "range")) (by rw [noStar_any hs];rfl) (fun h x=>x) (args_ok hc hs hu' (H.mono N.pre) N.rel ?_ (GE.next N))
 intro ρ2 σ2 s2 us vs hus N2 hvs
 refine ⟨⟨.machine,.inr (.inl rfl),Looks.of_pure rfl⟩,?_⟩
 induction hvs using IsVs.casesOn with
 | nil=>exact ft' hus
 | @cons x0 v0 us0 vs0 hx0 hr0 =>
  induction hr0 using IsVs.casesOn with
  | cons _ _=>exact (by induction hx0 using IsV.casesOn <;> exact ft' hus)
  | nil =>
   induction hx0 using IsV.casesOn with
   | @int k t =>
    refine x0a2 (ifB_ok (b:=sm 1000000 k) (x:=fin (rangeL 0 (natI k)) v σ2) hus :) fun h1 h2=>?_
    have hk:=sm_ok h1
    refine call_range_1 ?_
    have kp:=keep_push s2.heap { cls:=.type "range",data:=.fields #[.int 0 s2.toks,.int k t,.int 1 (s2.toks + 1)] }
    have NN:=N.trans N2
    exact hQ ρ2 σ2 _ k _ _ _ _ h2 ⟨NN.pre,NN.tk.trans (TK.keeps kp),N2.rel.grow (s':={ s2 with heap:=s2.heap.push { cls:=.type "range",data:=.fields #[.int 0 s2.toks,.int k t,.int 1 (s2.toks + 1)] },toks:=s2.toks + 1 + 1 }) kp rfl rfl⟩ (IsRange.new _ _ _ _ _ _ _) (by lia)
   | _=>exact ft' hus
theorem for_ok (G:Gr C T) (hc:WCx C ks r cx) (hs:WCs C ks r cs) {t e:PySem.Expr} {body el:List PySem.Stmt} {p:Pos}:WSt C ks r (.For t e body el p) (isNil el (sFor T cx ks cs t e body) noS):=by
 induction el using List.casesOn with
 | cons _ _=>exact noS_ok
 | nil =>
  show WSt C ks r _ (sFor T cx ks cs t e body)
  induction e using Expr.casesOn with
  | Call f args kws cp =>
   show WSt C ks r _ (match isRange T ks f with | true=>isNil kws (match noStar args with | true=>sForR T cx ks cs t args body | false=>noS) noS | false=>sForI T cx ks cs t (.Call f args kws cp) body)
   induction ef:isRange T ks f using Bool.casesOn with
   | false=>exact forI_ok G hc hs
   | true =>
    induction kws using List.casesOn with
    | cons _ _=>exact noS_ok
    | nil =>
     show WSt C ks r _ (match noStar args with | true=>sForR T cx ks cs t args body | false=>noS)
     induction hst:noStar args using Bool.casesOn with
     | false=>exact noS_ok
     | true =>
      intro v σ κ ε h A F env ρ s Q E H T1 R GS GE
      have h':evs cx args r v σ (fun vs σ'=>rangeOf vs fun l=>forL (css cs body) (asgC T cx ks t) l r v σ' κ ε) ε = true:=h
      refine wpAny_For (rangeCall (fin:=fun l v σ'=>forL (css cs body) (asgC T cx ks t) l r v σ' κ ε) G hc ef hst h' H R GE ?_) (fun _=>rfl)
      intro ρ1 σ1 s1 k a t u w hf N hr hk
      exact forRng_ok G hc (css_ok hs body) (H.mono N.pre) T1 N.rel hr hk (GS.next N) (GE.next N) hf
  | _=>exact forI_ok G hc hs
end
end Mine
end
section
namespace Mine
structure ExcOK (K:Frag) (c:Addr):Prop where
 sub:mroIn K c (.type "BaseException") = some true
 typ:typeIn K (.ref c) = some (.type "type")
section
variable {C:SC} {T:Tk} {F:Fm} {ρ ρ':Va} {σ σ':St} {h:Heap} {s s':Shared} {A:Around} {env:Env} {ks:Kd} {v:Ve} {E:Value→Shared→Prop} {cx:PySem.Expr→Mine.C} {cs:PySem.Stmt→CS} {r:Rc} {I:Addr} {o:Obj}
theorem Rel.view {n:Nat} {o':O} {a:Addr} (R:Rel C F ρ σ s) (ha:ρ.adr[n]? = some a) (H:IsO C ρ s.heap a o'):Rel C F ρ (σ.put n o') s :=
 have hled:∀ m om,(σ.put n o').at m = some om→∃ a,ρ.adr[m]? = some a∧IsO C ρ s.heap a om:=by
  intro m om e
  rw [St.at_put] at e
  by_cases q:m = n
  ·rw [if_pos q] at e
   (refine jS e fun j=>?_;clear e;subst j);subst q
   exact ⟨a,ha,H⟩
  ·rw [if_neg q] at e
   exact R.led m om e
 { R with led:=hled }
theorem raiseK_ok {ε:KX} {u:V} (h:raiseK T ε u σ = true):∃ n c d,u = .loc n∧σ.at n = some (.exc c d)∧c = T.kExc∧σ.fz≤n∧ε u (σ.put n (.inst c d)) = true:=by
 unfold raiseK at h
 induction u using V.casesOn with
 | loc n =>
  dsimp only at h
  induction e:σ.at n using Option.casesOn with
  | none=>rw [e] at h;exact ft' h
  | some o =>
   rw [e] at h
   induction o using O.casesOn with
   | exc c d =>
    refine x0a2 (ifB_ok h :) fun h1 h2=>?_
    refine x0a2 (ifB_ok h1 :) fun h3 h4=>?_
    exact ⟨n,c,d,rfl,e,Nat.eq_of_beq_eq_true h3,Nat.le_of_ble_eq_true h4,h2⟩
   | _=>exact ft' h
 | _=>exact ft' h
theorem raise_ok (G:Gr C T) (X:ExcOK C.K T.kExc) (hc:WCx C ks r cx) {e c:Option PySem.Expr} {p:Pos}:WSt C ks r (.Raise e c p) (sRaise T cx e c):=by
 induction c using Option.casesOn with
 | some _=>exact noS_ok
 | none =>
  induction e using Option.casesOn with
  | none=>exact noS_ok
  | some e =>
   intro v σ κ ε h A F env ρ s Q E H T1 R GS GE
   have h':(cx e).x r v σ (raiseK T ε) ε = true:=h
   rw [arm_exec_Raise]
   refine wpAny_bind (wpAny_standAt ?_)
   show wpAny (model PW C.w) A (raiseStmt env (some (do let v ← eval e env;standAt p;pure v)) none) Q E s
   unfold raiseStmt
   refine wpAny_bind (wpAny_bind ((hc.ok e).x v σ _ ε h' A F env ρ s _ E H R ?_ GE))
   intro ρ1 σ1 s1 u uv hu N hv
   refine x3a5 (raiseK_ok hu :) fun n c d q3q e1 q5q hz hε=>?_;subst q3q;subst q5q
   refine wpAny_bind (wpAny_standAt (wpAny_pure ?_))
   refine x1a2 (hv.inv :) fun a evq ha=>?_;subst evq
   refine x3a6 (N.rel.thing ha e1 :) fun ox dx vs q1 q2 q3 q4 q5 q6=>?_
   have Xs:=G.Xs N.rel
   have R2:=N.rel.view (o':=.inst T.kExc d) ha ⟨ox,dx,q1,q2,q3,by unfold notCls;rw [q4],q5⟩
   have hfin:E (.ref a) s1:=GE _ _ _ _ _ hε ⟨N.pre,N.tk,R2⟩ ⟨n,a,rfl,rfl,⟨_,_,by rw [St.at_put,if_pos rfl]⟩,ha,N.rel.bn n a ha hz,ox,vs,q2,q4,(Array.getElem?_eq_some_iff.mp q6).1,.inl q6⟩
   have L0:Looks (model PW C.w) s1.heap (typeOf (.ref a)) (.ref T.kExc):=q3▸(Looks.ld q2).andThen .now
   have L1:=looks_mroIn (M:=model PW C.w) Xs X.sub
   have L2:=looks_typeIn (M:=model PW C.w) Xs X.typ
   have L3:Looks (model PW C.w) s1.heap (isInstance (.ref a) (.type "BaseException")) true:=L0.andThen L1
   have hh:=H.hand
   obtain ⟨oc,odi,oda,osl⟩:=ox
   dsimp only at q3 q4 q5
   subst q3 q4 q5
   generalize hfin0:E (.ref a) s1 = P at hfin
   obtain ⟨hp,g,dr,tk,os⟩:=s1
   dsimp only at q2 L0 L1 L2 L3
   repeat (first | lk | simp only [Bool.false_eq_true,if_false,if_true,beq_self_eq_true])
   rw [q6]
   refine wpAny_pure ?_
   rw [if_neg (by decide)]
   refine wpAny_pure (wpAny_raiseNew_none hh ?_)
   rw [hfin0];exact hfin
end
end Mine
end
section
set_option backward.match.sparseCases true
set_option maxHeartbeats 4000000
namespace Mine
open PySem PySem.W PySem.Calls PyProof.Rows Builtin Builtin.ObjectAttr
noncomputable def makesExcIn (K:Frag) (C:Addr):Bool:=match K.lookup C with
 | some ⟨_,_,.cls cd,sl⟩=>!cd.abstract && (sl.toList[4]?).join == some (.builtin "Exception.__new__") && !cd.mro.isEmpty && cd.mro.contains (.ref C) && cd.mro.contains (.type "Exception") && !cd.mro.contains (.type "AttributeError") && !cd.mro.contains (.type "NameError") &&
   !cd.hasDel && specialIn K (.ref C) "__call__" == some (some (.builtin "type.__call__")) && instIn K (.ref C) (.type "type") == some true
 | _=>false
structure MakesExc (M:Model) (h:Heap) (C:Addr):Prop where
 obj:∃ oc od cd sl,h.get? C = some ⟨oc,od,.cls cd,sl⟩∧cd.mro.isEmpty = false∧cd.hasDel = false
 mro:∃ l:List Value,l.isEmpty = false∧Looks M h (mroOf (.ref C)) l
 made:Looks M h (Bind.madeBy (.ref C)) (some "Exception.__new__")
 base:Looks M h (Bind.staticBase (.ref C)) (.ref C)
 self:Looks M h (isSubtype (.ref C) (.ref C)) true
 exc:Looks M h (isSubtype (.ref C) (.type "Exception")) true
 noA:Looks M h (isSubtype (.ref C) (.type "AttributeError")) false
 noN:Looks M h (isSubtype (.ref C) (.type "NameError")) false
 call:Looks M h (specialOf (.ref C) "__call__") (some (.builtin "type.__call__"))
 typ:Looks M h (isInstance (.ref C) (.type "type")) true
set_option tactic.hygienic true in
theorem makesExc_of {K:Frag} {M:Model} {h:Heap} (X:K.In h) {C:Addr} (e:makesExcIn K C = true):MakesExc M h C:=by
 unfold makesExcIn at e
 split at e
 ·rename_i oc od cd sl ho
  simp only [Bool.and_eq_true,Bool.not_eq_true',beq_iff_eq] at e
  refine x0a2 e fun q0q e10=>?_;clear e;obtain ⟨⟨⟨⟨⟨⟨⟨⟨e1,e3⟩,e4⟩,e5⟩,e6⟩,e7⟩,e8⟩,e11⟩,e9⟩:=q0q
  have hc:clsIn K C = some cd:=by unfold clsIn;rw [ho]
  have hm:Looks M h (mroOf (.ref C)) cd.mro:=(looks_clsIn X hc).andThen .now
  obtain ⟨c,l,hl⟩:∃ c l,cd.mro = c :: l:=by induction q:cd.mro using List.casesOn with | nil=>rw [q] at e4;exact tf' e4 | cons c l=>exact ⟨c,l,rfl⟩
  have made:Looks M h (Bind.madeBy (.ref C)) (some "Exception.__new__"):=by
   intro A Q E s k q
   unfold Bind.madeBy
   refine wpAny_bind (hm A _ E s k ?_)
   rw [hl,List.forIn_cons]
   refine wpAny_bind (wpAny_bind (wpAny_bind (wpAny_bind (wpAny_loadPart (k _ _ (X _ _ ho)) (wpAny_pure ?_)))))
   dsimp only
   rw [← Array.getElem?_toList,e3]
   exact wpAny_pure (wpAny_pure (wpAny_pure q))
  have sub:∀ b r,cd.mro.contains b = r→Looks M h (isSubtype (.ref C) b) r:=fun b r q=>looks_mroIn X (by unfold mroIn;rw [hc,Option.bind_some,if_neg (by rw [e4];decide),q])
  refine ⟨⟨oc,od,cd,sl,X _ _ ho,e4,e11⟩,⟨cd.mro,e4,hm⟩,made,?_,sub _ _ e5,sub _ _ e6,sub _ _ e7,sub _ _ e8,looks_specialIn X e9,looks_instIn X e10⟩
  intro A Q E s k q
  unfold Bind.staticBase
  refine wpAny_bind (hm A _ E s k ?_)
  rw [hl,List.forIn_cons]
  exact wpAny_bind (wpAny_bind (wpAny_bind (made A _ E s k (wpAny_pure (wpAny_pure (wpAny_pure q))))))
 ·exact ft' e
abbrev excObj (C t:Addr):Obj:={ cls:=.ref C,data:=.fields #[.ref t,.none,.none,.none,.bool false,.none] }
abbrev tupObj (vs:List Value):Obj:={ cls:=.type "tuple",data:=.seq vs.toArray }
section
variable {prog:Program} {w:World} {A:Around} {K:Frag} {C:Addr} {R:Result→Shared→Prop} {h:Heap} {g:Array GenState} {d:Drawn} {t:Nat} {os:OsState}
theorem excNew_K {rest:List Value} (Y:MakesExc (model prog w) h C) (hrest:rest.length≤sizeLine)
  (hq:R (.ok (.ret (.ref (h.objs.size + 1)))) ⟨(h.push (tupObj rest)).push (excObj C h.objs.size),g,d,t,os⟩):codeAny (model prog w) A (.call (.builtin "Exception.__new__") ⟨.ref C :: rest,[]⟩) R ⟨h,g,d,t,os⟩:=by
 have F:=PySem.F.excBase_Exception
 obtain ⟨qa,qb,made,base,self,exc,noA,noN,call,typ⟩:=Y
 refine x4a3 qa fun oc od cd sl hC hne hnd=>?_
 refine x1a2 qb fun l hl hm=>?_
 clear qa qb
 have here:Looks (model prog w) h (Bind.madeHere "Exception.__new__" (.ref C)) ():=base.andThen (made.andThen (Looks.of_pure (by simp only [Option.map_some,bne_self_eq_false,Bool.false_eq_true,if_false])))
 have here2:Looks (model prog w) h (Bind.madeHere "BaseException.__new__" (.ref C)) ():=base.andThen (made.andThen (Looks.of_pure (by simp only [Option.map_some,F.canon,bne_self_eq_false,Bool.false_eq_true,if_false])))
 have hstar:=F.noStar
 refine codeAny_call_builtin_code (Code.quiet_builtin _ F.quiet) ?_
 simp only [checkBuiltinCall,F.newKind,F.newSplit,F.newRow]
 repeat (first | lk | wp_step | dsimp only [if_false,if_true] | simp only [bne_self_eq_false,Bool.false_eq_true,if_false,if_true,hstar,Bool.not_true])
 refine codeAny_builtinAt F.entry ?_
 unfold Builtin.«BaseException.__new__»
 refine PyProof.Rows.wpAt_bind ?_
 show PyProof.Rows.wpAt _ _ _ (stack >>= _) _ _ _
 refine PyProof.Rows.wpAt_bind (PyProof.Rows.wpAt_stack fun p below=>wpAt_of_wpAny ?_)
 dsimp only
 rw [if_pos F.ends]
 refine wpAny_pure (PySem.wpAt_of_wpAny ?_)
 rw [F.owner]
 repeat (first | lk | wp_step | simp only [bne_self_eq_false,Bool.false_eq_true,if_false,if_true,Bool.not_true])
 refine wpAny_loadPart_at (Heap.get?_push_of_some _ (Heap.get?_push_of_some _ hC)) ?_
 dsimp only
 rw [hnd]
 repeat wp_step
 show R _ _
 rw [Heap.size_push]
 exact hq
end
end Mine
end
section
set_option maxHeartbeats 4000000
namespace Mine
open PySem PySem.W PySem.Calls PyProof.Rows Builtin Builtin.ObjectAttr
section
variable {prog:Program} {w:World} {A:Around} {K:Frag} {C:Addr} {R:Result→Shared→Prop} {h:Heap} {g:Array GenState} {d:Drawn} {t:Nat} {os:OsState}
theorem makeExc_core {rest:List Value} {init:Value} (Y:MakesExc (model prog w) h C) (hrest:rest.length≤sizeLine) (hi:Looks (model prog w) h (typeLookup (.ref C) "__init__") (some init))
  (hb:∀ self,Looks (model prog w) h (bindSpecial init self) (init,[self]))
  (hq:codeAny (model prog w) (A.under (.builtin "type.__call__" ⟨.ref C :: rest,[]⟩)) (.call init ⟨.ref (h.objs.size + 1) :: rest,[]⟩) (InitBack (h.objs.size + 1) R) ⟨(h.push (tupObj rest)).push (excObj C h.objs.size),g,d,t,os⟩) :
  codeAny (model prog w) A (.call (.ref C) ⟨rest,[]⟩) R ⟨h,g,d,t,os⟩:=by
 have Y':=Y
 obtain ⟨qa,qb,made,base,self,exc,noA,noN,call,typ⟩:=Y
 refine x4a3 qa fun oc od cd sl hC e4 e2=>?_
 refine x1a2 qb fun l hl0 hml=>?_
 clear qa qb
 refine codeAny_of_tree ?_
 show wpAny _ _ (callAny (.ref C) _) _ _ _
 refine nd_load hC ?_
 show wpAny _ _ (callAny.viaDunder (.ref C) _) _ _ _
 unfold callAny.viaDunder
 refine wpAny_bind (call.at ?_)
 dsimp only
 rw [tc_bind]
 refine wpAny_bind (wpAny_pure (wpAny_bind (wpAny_pure ?_)))
 refine wpAny_pure (a:=Fin.again (.call (.builtin "type.__call__") ⟨.ref C :: rest,[]⟩)) (And.intro rfl ?_)
 refine codeAny_call_builtin_at (Code.quiet_builtin _ (by decide +kernel)) entry_typeCall (check_slot tc_kind tc_split typ (tc_args _ _ _) ?_)
 unfold Builtin.«type.__call__»
 have hm:Looks (model prog w) h (mroOf (.ref C)) cd.mro:=((Looks.ld (part:=none) hC).andThen .now).andThen .now
 have nw:Looks (model prog w) h (Bind.madeBy (.ref C)) (some "Exception.__new__"):=made
 repeat (first | with_reducible refine wpAny_call ?_ | lk | simp only [e4,Bool.false_eq_true,if_false])
 refine excNew_K Y' hrest ?_
 have k:∀ b o,h.get? b = some o→((h.push (tupObj rest)).push (excObj C h.objs.size)).get? b = some o:=fun b o e=>Heap.get?_push_of_some _ (Heap.get?_push_of_some _ e)
 have hx:((h.push (tupObj rest)).push (excObj C h.objs.size)).get? (h.objs.size + 1) = some (excObj C h.objs.size):=by heap_get
 have t1:Looks (model prog w) ((h.push (tupObj rest)).push (excObj C h.objs.size)) (typeOf (.ref (h.objs.size + 1))) (.ref C):=(Looks.ld hx).andThen .now
 have s1:=self.keeps k
 have i1:=hi.keeps k
 have b1:=(hb (.ref (h.objs.size + 1))).keeps k
 dsimp only
 unfold isInstance callSpecial? specialOf
 repeat (first | with_reducible refine wpAny_call ?_ | lk)
 refine codeAny_mono hq fun r s' z=>?_
 rcases r with e | (v | _ | _ | _) <;> first | exact z | exact z.elim | skip
 rcases z with ⟨rfl,z⟩
 exact wpAny_pure (wpAny_pure z)
end
section
variable {C:SC} {T:Tk} {F:Fm} {ρ:Va} {σ:St} {s:Shared} {A:Around} {env:Env} {ks:Kd} {v:Ve} {Q E:Value→Shared→Prop}
theorem Arnd.typeCall {d:Nat} (Ar:Arnd A F d) (hd:d≤50) (c:Addr) (args:List Value):Arnd (A.under (.builtin "type.__call__" ⟨.ref c :: args,[]⟩)) F (d + 1) where
 frames:=Ar.frames
 hand:=Ar.hand
 depth:=by
  have:=Ar.depth
  show A.depth + 1≤_
  lia
 units:=by
  have:=Ar.units
  show A.units + (1 + 3 * 0)≤_
  lia
 dep:=by lia
theorem initBack {x:Addr} {n:Nat} {ρ1:Va} {s1:Shared} {κ:KX} {r:Rc} {i:Nat} {d:Nat} {us:List V} {args:List Value} {σ1:St} {ε:KX} (hr:RcOK C r) (h:r d (.top i) (.loc n :: us) σ1 (noneK (κ (.loc n))) ε = true)
  (Ar:Arnd A F d) (N:Next C F ρ s.heap ρ1 σ1 s1) (hx:IsV ρ1 s1.heap (.loc n) (.ref x)) (hu:IsVs ρ s.heap us args) (GQ:GoQ C F ρ s.heap κ Q) (GE:GoE C F ρ s.heap ε E) :
  codeAny (model PW C.w) A (.call (.ref i) ⟨.ref x :: args,[]⟩) (InitBack x (CallR Q E)) s1:=by
 refine codeAny_mono ((hr d (.top i) _ σ1 _ ε h A F ρ1 s1 (fun v s'=>v = .none∧Q (.ref x) s') E (.ref i) (.ref x :: args) Ar N.rel .top (.cons hx (hu.mono N.pre N.tk)) ?_ (GE.next N)).2.2 ⟨_,rfl⟩) ?_
 ·intro ρ' σ' s' u v hu' N' hv
  unfold noneK at hu'
  split at hu'
  ·cases hv
   exact ⟨rfl,GQ _ _ _ _ _ hu' (N.trans N') (hx.mono N'.pre N'.tk)⟩
  ·exact ft' hu'
 ·intro r s' z
  rcases r with e | (v | _ | _ | _) <;> first | exact z | exact z.elim
theorem mkInst_ok (G:Gr C T) {r:Rc} (hr:RcOK C r) {a:Nat} {cl:Cl} (P:ClsPlain C.K a cl) {d:Nat} {us:List V} {args:List Value} {κ ε:KX} (h:mkInst r a cl d us σ κ ε = true) (hd:d≤50) (Ar:Arnd A F d) (R:Rel C F ρ σ s) (hu:IsVs ρ s.heap us args)
  (GQ:GoQ C F ρ s.heap κ Q) (GE:GoE C F ρ s.heap ε E):codeAny (model PW C.w) A (.call (.ref a) ⟨args,[]⟩) (CallR Q E) s:=by
 obtain ⟨hh,g,dr,t,os⟩:=s
 refine make_core (makes_of (G.Xs R) P.makes) (looks_findIn (G.Xs R) P.init.1) (fun self=>bind_fn (G.Xs R) self P.init.2) (.inl rfl) ?_
 have N1:=R.push (o:=.attrs []) (ob:=emptyDict) rfl t ⟨_,#[],0,fun _=>none,Heap.get?_push_size _ rfl,rfl,rfl,Nat.le_refl _,fun _ h=>by simp at h,fun y=>rfl,fun y=>rfl⟩
 have hd1:(ρ.adr++[hh.objs.size])[σ.nxt]? = some hh.objs.size:=by rw [R.nxt];simp
 have N2:=N1.rel.push (o:=.inst a σ.nxt) (ob:=instObj a hh.objs.size) rfl t ⟨_,_,getpre (le_more _ _).adr hd1,Heap.get?_push_size _ rfl,rfl,rfl,rfl⟩
 have hx:=N1.rel.nxt_loc (a:=(hh.push emptyDict).objs.size) (h:=((hh.push emptyDict).push (instObj a hh.objs.size)))
 rw [Heap.size_push] at hx
 have N:=N1.trans N2
 dsimp only at N
 rw [Heap.size_push] at N
 exact initBack hr h (Ar.typeCall hd _ _) N hx hu GQ GE
theorem mkExc_ok (G:Gr C T) {r:Rc} (hr:RcOK C r) {a:Nat} {cl:Cl} (P:makesExcIn C.K a = true) (hi:findIn C.K (.ref a) "__init__" = some (some (.ref cl.init))∧typeIn C.K (.ref cl.init) = some (.type "function")) {d:Nat} {us:List V} {args:List Value} {κ ε:KX}
  (h:mkExc r a cl d us σ κ ε = true) (hd:d≤50) (Ar:Arnd A F d) (R:Rel C F ρ σ s) (hu:IsVs ρ s.heap us args)
  (GQ:GoQ C F ρ s.heap κ Q) (GE:GoE C F ρ s.heap ε E):codeAny (model PW C.w) A (.call (.ref a) ⟨args,[]⟩) (CallR Q E) s:=by
 obtain ⟨hh,g,dr,t,os⟩:=s
 refine x0a2 (ifB_ok h :) fun h1 h2=>?_
 have hf:=fitsN_ok h1
 rw [len_eq,hu.length] at hf
 refine makeExc_core (makesExc_of (G.Xs R) P) (fits_line hf) (looks_findIn (G.Xs R) hi.1) (fun self=>bind_fn (G.Xs R) self hi.2) ?_
 have R1:Rel C F ρ σ ⟨hh.push (tupObj args),g,dr,t,os⟩:=R.grow (s':=⟨hh.push (tupObj args),g,dr,t,os⟩) (keep_push _ _) rfl rfl
 have N2:=R1.push (o:=.raw a) (ob:=excObj a hh.objs.size) rfl t ⟨_,_,Heap.get?_push_size _ rfl,rfl,rfl,rfl,rfl⟩
 have hx:=R1.nxt_loc (a:=(hh.push (tupObj args)).objs.size) (h:=((hh.push (tupObj args)).push (excObj a hh.objs.size)))
 rw [Heap.size_push] at hx
 have N:Next C F ρ hh _ _ _:=⟨N2.pre,(TK.keeps (keep_push hh (tupObj args))).trans N2.tk,N2.rel⟩
 dsimp only at N
 rw [Heap.size_push] at N
 exact initBack (s:=⟨hh,g,dr,t,os⟩) hr h2 (Ar.typeCall hd _ _) N hx hu GQ GE
end
end Mine
end
section
set_option maxHeartbeats 4000000
namespace Mine
section
variable {C:SC} {T:Tk} {F:Fm} {ρ:Va} {σ:St} {s:Shared} {A:Around} {env:Env} {ks:Kd} {v:Ve} {Q E:Value→Shared→Prop}
theorem Rel.inner {L:Addr} {mm:Str→Option Value} {cur':List (Nat×V)} (R:Rel C F ρ σ s) (hL:L ∉ ρ.adr) (h0:C.h0.get? L = none) (hb:C.base.get? L = none) (hns:s.heap.Ns L mm) (hm:NsHas ρ s.heap cur' mm) (n1:F.L≠L) (n2:∀ p∈F.fr,p.1≠L) (n3:∀ p∈F.held,p.1≠L)
  (hk:env.scope.kind = .function) (hf:env.frame = some L):Rel C (Mine.inner F σ env L) ρ { σ with cur:=cur' } s where
 bk:=R.bk
 bn:=R.bn
 keep:=R.keep
 fresh:=R.fresh
 nodup:=R.nodup
 live:=R.live
 nxt:=R.nxt
 syn:=R.syn
 led:=R.led
 cur:=⟨⟨hL,h0,x3a2 (hns) fun o _ _ e _=>⟨o,e⟩,hb⟩,mm,hns,hm⟩
 fr:=fun p hp=>by
  rcases List.mem_cons.mp hp with rfl | hp
  ·exact ⟨⟨R.cur.1,n1⟩,R.cur.2⟩
  ·exact ⟨⟨(R.fr p hp).1.1,n2 p hp⟩,(R.fr p hp).2⟩
 held:=fun p hp=>by
  refine x0a4 (R.held p hp :) fun q1 q2 q3 q4=>?_
  refine ⟨q1,n3 p hp,fun q hq=>?_,q4⟩
  rcases List.mem_cons.mp hq with rfl | hq
  ·exact q2
  ·exact q3 q hq
 tab:=R.tab
 gens:=R.gens
 os:=R.os
 frames:=by
  refine x3a3 hns fun o es ep e d _=>?_;clear hns
  exact ⟨by rw [hk];decide,⟨L,o,hf,h0,e,fun vs q=>by rw [d] at q;cases q⟩,R.frames⟩
 fsL:=fun e2 he2 b2 hf2=>by
  rcases List.mem_cons.mp he2 with rfl | he2
  ·rw [hf] at hf2
   exact .inl (Option.some.inj hf2).symm
  ·rcases R.fsL e2 he2 b2 hf2 with q | ⟨p,hp,q⟩
   ·exact .inr ⟨_,.head _,q⟩
   ·exact .inr ⟨p,.tail _ hp,q⟩
theorem callO_ok (G:Gr C T) (hLv:LeaveOK C) {cx:Kd→PySem.Expr→Mine.C} {r:Rc} (hcx:∀ ks e,WC C ks r e (cx ks e)) {n:Nat} {a:Addr} (ha:ρ.adr[n]? = some a) {d:Nat} {us:List V} {args:List Value} {κ ε:KX}
  (h:callO r cx (σ.at n) d us σ κ ε = true) (h1:1≤d) (hd:d≤50) (Ar:Arnd A F d) (R:Rel C F ρ σ s) (hu:IsVs ρ s.heap us args) (GQ:GoQ C F ρ s.heap κ Q) (GE:GoE C F ρ s.heap ε E) :
  Kept (model PW C.w) s.heap (.ref a)∧codeAny (model PW C.w) A (.call (.ref a) ⟨args,[]⟩) (CallR Q E) s:=by
 induction eo:σ.at n using Option.casesOn with
 | none=>rw [eo] at h;exact ft' h
 | some o =>
  rw [eo] at h
  induction o using O.casesOn with
  | clos cs sc e =>
   induction hu using IsVs.casesOn with
   | cons _ _=>exact ft' h
   | nil =>
    have h':(cx (kindsOf sc) e).x r ⟨cs,d + 1⟩ { σ with cur:=[] } (back σ κ) (back σ ε) = true:=h
    refine x4a5 (R.thing ha eo :) fun o cl cdv ct ho hod hcd hsc hmap=>?_
    have hof:okF sc = true∧noCells sc.names = true:=by
     unfold okSc at hsc
     induction q:okF sc using Bool.casesOn with
     | true=>rw [q] at hsc;exact ⟨rfl,hsc⟩
     | false=>rw [q] at hsc;exact ft' hsc
    refine x0a3 (okF_ok hof.1 :) fun hk hgen hco=>?_
    have hnc:∀ x∈sc.names,x.2≠.cell:=by
     have:∀ l:List (Str×NameKind),noCells l = true→∀ x∈l,x.2≠.cell:=by
      intro l
      induction l with
      | nil=>intro _ x hx;cases hx
      | cons p r ih =>
       intro hl x hx
       obtain ⟨y,k⟩:=p
       rcases List.mem_cons.mp hx with rfl | hx
       ·intro q
        dsimp only at q
        subst q
        exact ft' hl
       ·refine ih ?_ x hx
        induction k using NameKind.casesOn with
        | cell=>exact ft' hl
        | _=>exact hl
     exact this _ hof.2
    constructor
    ·refine ⟨.frame,.inl rfl,(Looks.ld (part:=none) ho).andThen ?_⟩
     rw [hod]
     exact .now
    have hroom:A.depth < recursionLimit:=by
     have:=Ar.depth
     have e1:claimMargin = 300:=rfl
     have e2:recursionLimit = 1000:=rfl
     lia
    refine kla_callFunE hroom ho hod hco hgen rfl hcd ?_
    have hbind:bindArgs (kla_fn "<lambda>" C.lq noArgs e sc cl C.pm cdv ct) ⟨[],[]⟩ = pure []:=by kernel_rfl
    rw [hbind]
    refine x0a4 (R.lt :) fun l1 l2 l3 l4=>?_
    refine x0a2 (R.above :) fun a1 a2=>?_
    refine wpAny_pure (wpAny_newFunctionEnv hnc (fun _ q=>by cases q) (fun h₁ hns hsb=>?_) hk)
    have hk₁:∀ b o,s.heap.get? b = some o→h₁.get? b = some o:=fun b o e=>hsb.extBut b o (Nat.ne_of_lt (Heap.lt_size e)) (Heap.get?_push_of_some _ e)
    have R1:Rel C F ρ σ { s with heap:=h₁,toks:=s.toks + 0 }:=R.grow (s':={ s with heap:=h₁,toks:=s.toks + 0 }) hk₁ rfl rfl
    have R2:=R1.inner (env:=envX C.lq sc s.heap.objs.size a cdv cl) (cur':=[]) (fun q=>Nat.lt_irrefl _ (l1 _ q)) (a1 _ (Nat.le_refl _)) (a2 _ (Nat.le_refl _)) hns (fun x v e=>by exact nS' e) (Nat.ne_of_lt l2) (fun p hp=>Nat.ne_of_lt (l3 p hp)) (fun p hp=>Nat.ne_of_lt (l4 p hp)) hk rfl
    refine ⟨G.lims R1,?_⟩
    show codeAny _ _ (.expr e (envX C.lq sc s.heap.objs.size a cdv cl)) _ _
    have tk:=TK.keeps hk₁
    have H:EnvOK C (A.deeper (envX C.lq sc s.heap.objs.size a cdv cl)) (Mine.inner F σ (envX C.lq sc s.heap.objs.size a cdv cl) s.heap.objs.size) (envX C.lq sc s.heap.objs.size a cdv cl) (kindsOf sc) ⟨cs,d + 1⟩ ρ:={
     glob:=⟨rfl,rfl⟩
     loc:=rfl
     kind:=hk
     ks:=rfl
     cells:=hmap
     frames:=by show A.frames.map _ = _;rw [Ar.frames];rfl
     hand:=Ar.hand
     depth:=by show A.depth + 1≤2 + claimMargin + 3 * (d + 1);have:=Ar.depth;lia
     units:=by show A.units + 3≤20 + 20 * (d + 1);have:=Ar.units;lia
     dep:=by show d + 1≤60;lia
     law:=fun q=>by have:d + 1 = 1:=q;lia }
    have T1:Top1 (Mine.inner F σ (envX C.lq sc s.heap.objs.size a cdv cl) s.heap.objs.size) (envX C.lq sc s.heap.objs.size a cdv cl):=⟨⟨F.fs,rfl⟩,rfl⟩
    refine kla_codeExpr ?_
    refine (hcx (kindsOf sc) e).x ⟨cs,d + 1⟩ _ _ _ h' _ _ _ ρ _ _ _ H R2 ?_ ?_
    ·intro ρ' σ' s' u vv hu' N hv
     exact GQ _ _ _ _ _ hu' (Next.leave R (Va.le.refl _) tk N) hv
    ·intro ρ' σ' s' u ex hε N hx
     refine hLv _ _ _ ρ' σ' s' u ex _ _ H.frames T1 N.rel hx fun s'' tk' R'' hx''=>?_
     have N'':Next C _ ρ _ ρ' σ' s'':=⟨N.pre,N.tk.trans tk',R''⟩
     exact GE _ _ _ _ _ hε (Next.leave R (Va.le.refl _) tk N'') (hx'' F rfl rfl rfl)
  | _=>exact ft' h
end
end Mine
end
section
set_option maxHeartbeats 4000000
namespace Mine
structure ClsStr (K:Frag) (D:Addr):Prop where
 no:kin_notT K D "str" = true
 get:plainGet K D "__class__" = true
 dct:hasDictIn K D = true
 attr:findIn K (.ref D) "__class__" = some (some (.builtin "object.__class__"))
 desc:specialIn K (.builtin "object.__class__") "__get__" = some (some (.builtin "getset_descriptor.__get__"))
 takes:takesIn K (.builtin "object.__class__") = some true
 mro:mroIn K D (.type "object") = some true
section
variable {C:SC} {T:Tk} {F:Fm} {ρ:Va} {σ:St} {s:Shared} {A:Around} {env:Env} {ks:Kd} {v:Ve} {Q E:Value→Shared→Prop}
theorem listOf_at {u:V} {l:List V} (h:listOf u σ = some l):∃ n,u = .loc n∧σ.at n = some (.list l):=by
 induction u using V.casesOn with
 | loc n =>
  induction e:σ.at n using Option.casesOn with
  | none=>simp only [listOf,e] at h;exact nS' h
  | some o =>
   induction o using O.casesOn with
   | list xs=>simp only [listOf,e] at h;(refine jS h fun j=>?_;clear h;subst j);exact ⟨n,rfl,e⟩
   | _=>simp only [listOf,e] at h;exact nS' h
 | _=>exact nS' h
theorem tupleT_ok {us:List V} {args:List Value} {κ:KX} (h:tyV .tuple us σ κ = true) (R:Rel C F ρ σ s) (hu:IsVs ρ s.heap us args) (GQ:GoQ C F ρ s.heap κ Q):wpAny (model PW C.w) A (call (.type "tuple") args) Q E s:=by
 induction hu using IsVs.casesOn with
 | nil=>exact ft' h
 | @cons u w us ws hu hr =>
  induction hr using IsVs.casesOn with
  | cons _ _=>exact ft' h
  | nil =>
   have h':(match listOf u σ with | some l=>newT κ σ l | none=>false) = true:=h
   induction e:listOf u σ using Option.casesOn with
   | none=>rw [e] at h';exact ft' h'
   | some l =>
    rw [e] at h'
    refine x1a2 (listOf_at e :) fun n q1q en=>?_;subst q1q
    refine x0a2 (ifB_ok h' :) fun h1 h2=>?_
    refine x1a2 (hu.inv :) fun a evq ha=>?_;subst evq
    refine x1a2 (R.thing ha en :) fun vs hpl hvs=>?_
    have hf:=fitsN_ok h1
    rw [len_eq,hvs.length] at hf
    refine call_tuple_list hpl.isList (fun h' hk=>?_) (by rw [List.size_toArray];exact fits_line hf)
    have R1:Rel C F ρ σ { s with heap:=h'.push { cls:=.type "tuple",data:=.seq vs.toArray } }:=R.grow (fun b o e=>keep_push _ _ _ _ (hk b o e)) rfl rfl
    have tk:TK s.heap (h'.push { cls:=.type "tuple",data:=.seq vs.toArray }):=TK.keeps fun b o e=>keep_push _ _ _ _ (hk b o e)
    exact GQ _ _ _ _ _ h2 ⟨Va.le.refl _,tk,R1⟩ (.tup ⟨_,Heap.get?_push_size _ rfl,rfl,0,rfl⟩ (hvs.mono (Va.le.refl _) tk))
theorem lenV_at0 {n:Nat} {σ:St} (e:σ.at n = none):lenV (.loc n) σ = none:=by show (match σ.at n with | some o=>(match o with | .list xs=>some (len xs) | _=>none) | none=>none) = _;rw [e]
theorem lenV_at {n:Nat} {σ:St} {o:O}:σ.at n = some o→lenV (.loc n) σ = (match o with | .list xs=>some (len xs) | _=>none):=by intro e;show (match σ.at n with | some o=>(match o with | .list xs=>some (len xs) | _=>none) | none=>none) = _;rw [e]
theorem isStr_at0 {T:Tk} {n:Nat} {σ:St} (e:σ.at n = none):isStr T (.loc n) σ = none:=by show (match σ.at n with | some o=>(match o with | .inst c _=>(match notExc T c with | true=>some false | false=>none) | .list _=>some false | .sdict _=>some false | _=>none) | none=>none) = _;rw [e]
theorem isStr_at {T:Tk} {n:Nat} {σ:St} {o:O}:σ.at n = some o→isStr T (.loc n) σ = (match o with | .inst c _=>(match notExc T c with | true=>some false | false=>none) | .list _=>some false | .sdict _=>some false | _=>none):=by intro e;show (match σ.at n with | some o=>(match o with | .inst c _=>(match notExc T c with | true=>some false | false=>none) | .list _=>some false | .sdict _=>some false | _=>none) | none=>none) = _;rw [e]
theorem len_ok {us:List V} {args:List Value} {κ:KX} (h:biV T .len us σ κ = true) (R:Rel C F ρ σ s) (hu:IsVs ρ s.heap us args) (GQ:GoQ C F ρ s.heap κ Q):wpAny (model PW C.w) A (call (.builtin "len") args) Q E s:=by
 induction hu using IsVs.casesOn with
 | nil=>exact ft' h
 | @cons u w us ws hu hr =>
  induction hr using IsVs.casesOn with
  | cons _ _=>exact ft' h
  | nil =>
   have h':(match lenV u σ with | some n=>ifB (fitsN n) (κ (.int n) σ) false | none=>false) = true:=h
   have fin:∀ {l:List V} {vs:List Value},IsVs ρ s.heap l vs→lenV u σ = some (len l)→(vs.toArray.size:Int) < 2 ^ 63∧Q (.int vs.toArray.size (s.toks + 1)) { s with toks:=s.toks + 1 + 1 }:=by
    intro l vs hl e
    rw [e] at h'
    refine x0a2 (ifB_ok h' :) fun h1 h2=>?_
    have hf:=fitsN_ok h1
    rw [len_eq,hl.length] at hf h2
    refine ⟨by simp;lia,?_⟩
    have:=GQ _ _ _ (.int (vs.length:Int)) (.int (vs.length:Int) (s.toks + 1)) h2 (.tok R (s.toks + 1 + 1)) .int
    simpa using this
   induction hu using IsV.casesOn with
   | @tup l a vs ht hs =>
    refine x0a2 (fin hs rfl :) fun f1 f2=>?_
    exact PyProof.Rows.len_tuple ht f1 f2
   | @loc n a ha =>
    induction en:σ.at n using Option.casesOn with
    | none=>rw [lenV_at0 en] at h';exact ft' h'
    | some o =>
     rw [lenV_at en] at h'
     induction o using O.casesOn with
     | list l =>
      refine x1a2 (R.thing ha en :) fun vs hpl hvs=>?_
      refine x0a2 (fin hvs (lenV_at en) :) fun f1 f2=>?_
      exact Calls.call_len_list hpl.isList f1 f2
     | _=>exact ft' h'
   | _=>exact ft' h'
theorem maxmin_ok {f:Int→Int→Int} {us:List V} {args:List Value} {κ:KX} {i:String} (h:maxV us f (fun u=>κ u σ) = true) (R:Rel C F ρ σ s) (hu:IsVs ρ s.heap us args) (GQ:GoQ C F ρ s.heap κ Q)
  (hf:∀ a b t u,(∀ h' tk tt,(∀ c o,s.heap.get? c = some o→h'.get? c = some o)→Q (.int (f a b) tt) { s with heap:=h',toks:=tk })→wpAny (model PW C.w) A (call (.builtin i) [.int a t,.int b u]) Q E s):wpAny (model PW C.w) A (call (.builtin i) args) Q E s:=by
 induction hu using IsVs.casesOn with
 | nil=>exact ft' h
 | @cons x xv us ws hx hr =>
  induction hx using IsV.casesOn with
  | @int a t =>
   induction hr using IsVs.casesOn with
   | nil=>exact ft' h
   | @cons y yv us ws hy hr =>
    induction hy using IsV.casesOn with
    | @int b t' =>
     induction hr using IsVs.casesOn with
     | nil =>
      have h':κ (.int (f a b)) σ = true:=h
      exact hf a b t t' fun h1 tk tt hk=>GQ _ _ _ _ _ h' ⟨Va.le.refl _,TK.keeps hk,R.grow (s':={ s with heap:=h1,toks:=tk }) hk rfl rfl⟩ .int
     | cons _ _=>exact ft' h
    | _=>exact ft' h
  | _=>induction hr using IsVs.casesOn with
   | nil=>exact ft' h
   | cons _ hr=>induction hr using IsVs.casesOn <;> exact ft' h
theorem ltI_eq (a b:Int):ltI a b = decide (a < b):=by
 have nb:∀ m n:Nat,Nat.ble (m + 1) n = decide (m < n):=fun m n=>by
  by_cases q:m < n
  ·rw [decide_eq_true q];exact Nat.ble_eq_true_of_le q
  ·rw [decide_eq_false q];exact Bool.eq_false_iff.mpr fun z=>q (Nat.le_of_ble_eq_true z)
 induction a using Int.casesOn with
 | ofNat a =>
  induction b using Int.casesOn with
  | ofNat b=>show Nat.ble (a + 1) b = _;rw [nb];exact decide_eq_decide.mpr (by simp)
  | negSucc b=>show false = _;exact (decide_eq_false (by simp only [Int.ofNat_eq_natCast];lia)).symm
 | negSucc a =>
  induction b using Int.casesOn with
  | ofNat b=>show true = _;exact (decide_eq_true (by simp only [Int.ofNat_eq_natCast];lia)).symm
  | negSucc b=>show Nat.ble (b + 1) a = _;rw [nb];exact decide_eq_decide.mpr (by lia)
theorem isi_ok (hS:∀ c cl,T.tx.cls.get c = some cl→cl.exc = false→ClsStr C.K c) (G:Gr C T) {us:List V} {args:List Value} {κ:KX} (h:biV T .isinstance us σ κ = true) (R:Rel C F ρ σ s) (hu:IsVs ρ s.heap us args) (GQ:GoQ C F ρ s.heap κ Q) :
  wpAny (model PW C.w) A (call (.builtin "isinstance") args) Q E s:=by
 induction hu using IsVs.casesOn with
 | nil=>exact ft' h
 | @cons u w us ws hu hr =>
  induction hr using IsVs.casesOn with
  | nil=>exact ft' h
  | @cons y yv us ws hy hr =>
   induction hr using IsVs.casesOn with
   | cons _ _=>exact ft' h
   | nil =>
    have h':isiV T u y σ κ = true:=h
    induction hy using IsV.casesOn with
    | @ty t =>
     induction t using TY.casesOn with
     | str =>
      have h'':(match isStr T u σ with | some b=>κ (.bool b) σ | none=>false) = true:=h'
      induction hu using IsV.casesOn with
      | str=>exact IsiPair.str_str (GQ _ _ _ _ _ h'' (.here R) .bool)
      | int=>exact IsiPair.int_str (GQ _ _ _ _ _ h'' (.tok R _) .bool)
      | @loc n a ha =>
       induction en:σ.at n using Option.casesOn with
       | none=>rw [isStr_at0 en] at h'';exact ft' h''
       | some o =>
        have io:=R.thing ha en
        rw [isStr_at en] at h''
        induction o using O.casesOn with
        | list xs =>
         obtain ⟨vs,⟨k,e⟩,_⟩:=io
         exact IsiPair.list_str e rfl (GQ _ _ _ _ _ h'' (.tok R _) .bool)
        | sdict xs =>
         obtain ⟨_,kvs,⟨ob,es,ep,e,c,_⟩,_⟩:=io
         exact IsiPair.dict_str e c.1 (GQ _ _ _ _ _ h'' (.tok R _) .bool)
        | inst c d =>
         replace h'':(match (match notExc T c with | true=>some false | false=>none) with | some b=>κ (.bool b) σ | none=>false) = true:=h''
         induction ec:T.tx.cls.get c using Option.casesOn with
         | none=>simp only [notExc,ec] at h'';exact ft' h''
         | some cl =>
          induction ex:cl.exc using Bool.casesOn with
          | true=>simp only [notExc,ec,ex,notB'] at h'';exact ft' h''
          | false =>
           simp only [notExc,ec,ex,notB'] at h''
           have S:=hS c cl ec ex
           refine x2a5 io fun ox dx hd hox hcl hnc hdx=>?_;clear io
           refine x1a1 (R.live _ (List.mem_of_getElem? hd) :) fun od ho=>?_
           have I:InstAt s.heap a ox c (some od):=⟨hox,hcl,hnc,by rw [hdx];exact ho⟩
           exact kin_callT (G.Xs R) I S.no (by kernel_rfl) S.get S.dct S.attr S.desc S.takes S.mro (GQ _ _ _ _ _ h'' (.tok R _) .bool)
        | _=>exact ft' h''
      | _=>exact ft' h''
     | _=>exact ft' h'
    | _=>exact ft' h'
theorem sorted_ok (hh:A.handled = none) {us:List V} {args:List Value} {κ:KX} (h:biV T .sorted us σ κ = true) (R:Rel C F ρ σ s) (hu:IsVs ρ s.heap us args) (GQ:GoQ C F ρ s.heap κ Q):wpAny (model PW C.w) A (call (.builtin "sorted") args) Q E s:=by
 induction hu using IsVs.casesOn with
 | nil=>exact ft' h
 | @cons u w us ws hu hr =>
  induction hr using IsVs.casesOn with
  | cons _ _=>exact ft' h
  | nil =>
   have h':srtV u σ κ = true:=h
   induction hu using IsV.casesOn with
   | @loc n a ha =>
    have h'':(match σ.at n with | some o=>srtO o (newL κ σ) | none=>false) = true:=h'
    induction en:σ.at n using Option.casesOn with
    | none=>rw [en] at h'';exact ft' h''
    | some o =>
     rw [en] at h''
     obtain ⟨ns,kvs,lo,hD,h3,hl,hk⟩:∃ (ns:List Int) (kvs:List (Int×Value)),(a == sysModules) = false∧s.heap.DictOf (intKind PW C.w) a kvs∧newL κ σ (ns.map .int) = true∧ns.length≤1∧kvs.map (·.1) = ns:=by
      have io:=R.thing ha en
      induction o using O.casesOn with
      | edict=>exact ⟨[],[],io.1,io.2.2,h'',by simp,rfl⟩
      | idict m =>
       induction m using List.casesOn with
       | nil=>exact ft' h''
       | cons p m =>
       induction m using List.casesOn with
       | cons _ _=>exact ft' h''
       | nil =>
        obtain ⟨k,x⟩:=p
        obtain ⟨lo,kvs,hd,hk⟩:=io
        cases hk with
        | cons hx hr=>cases hr;exact ⟨[k],_,lo,hd,h'',by simp,rfl⟩
      | _=>exact ft' h''
     refine x1a1 (hD.dictAt :) fun ep hat=>?_
     have hlen:kvs.length = ns.length:=by rw [← hk,List.length_map]
     refine call_function_entry kind_sorted plain_sorted entry_sorted (args_sorted1 _) ?_
     unfold Builtin.«sorted»
     refine wpAny_bind (m:=checkCount "sorted" 1 1 _) (wpAny_pure ?_)
     refine wpAny_bind (kdu_collect (A:=A.in1) (kdl_dict (knd:=intKind PW C.w) (kvs:=kvs) (ep:=ep) lo) hh hat (by rw [hlen];exact Nat.le_trans hl (by decide)) fun h1 tk acc hkeep hacc=>?_)
     have hl2:acc.toList.length = ns.length:=by rw [Array.length_toList,hacc.1,hlen]
     have hI:IntsAre acc.toList ns:=by
      induction ns using List.casesOn with
      | nil=>rw [List.eq_nil_of_length_eq_zero hl2];exact .nil
      | cons k ns =>
      induction ns using List.casesOn with
      | cons _ _=>exact absurd hl (by simp)
      | nil =>
       refine x1a1 (List.length_eq_one_iff.mp hl2 :) fun x hx=>?_
       refine x2a2 (hacc.2 0 x (by rw [← Array.getElem?_toList,hx];rfl) :) fun k' v hv hi=>?_
       have:k' = k:=by
        have e1:(kvs.map (·.1))[0]? = some k':=by rw [List.getElem?_map,hv];rfl
        rw [hk] at e1
        exact (Option.some.inj e1).symm
       subst this
       refine x1a1 (Value.isInt_shape hi :) fun t q1q=>?_;subst q1q
       rw [hx]
       exact .cons _ _ .nil
     refine wpAny_bind (wpAny_newList ?_ (by rw [hl2];exact Nat.le_trans hl (by decide)))
     have hoL:(h1.push (seqObj "list" acc.toList.toArray 0)).get? h1.objs.size = some (seqObj "list" acc.toList.toArray 0):=Heap.get?_push_size _ rfl
     refine wpAny_bind (wpAny_holding (wpAny_call_entry slot_list_sort ⟨_,hoL,rfl⟩ entry_list_sort (list_sort_tree hoL hI (by rw [hl2];lia) fun out ns' a1 a2 a3=>⟨_,rfl,?_⟩) (args_list_sort _)))
     refine wpAny_pure ⟨_,rfl,?_⟩
     refine x0a2 (ifB_ok h3 :) fun g1 g2=>?_
     have R1:Rel C F ρ σ { s with heap:=h1,toks:=tk }:=R.grow (s':={ s with heap:=h1,toks:=tk }) hkeep rfl rfl
     have hend:∃ m,(sortedHeap (h1.push (seqObj "list" acc.toList.toArray 0)) h1.objs.size acc.toList out).get? h1.objs.size = some (seqObj "list" out m):=by
      have e1:=get?_update_seq hoL fun _=>#[]
      unfold sortedHeap
      exact ⟨_,get?_update_seq (Heap.get?_push_of_some _ (Heap.get?_push_of_some _ e1)) fun _=>out⟩
     have kk:∀ b o,h1.get? b = some o→(sortedHeap (h1.push (seqObj "list" acc.toList.toArray 0)) h1.objs.size acc.toList out).get? b = some o:=fun b o e=>by
      have ne:b≠h1.objs.size:=Nat.ne_of_lt (Heap.lt_size e)
      unfold sortedHeap
      rw [Heap.get?_update_other _ _ (Ne.symm ne)]
      refine Heap.get?_push_of_some _ (Heap.get?_push_of_some _ ?_)
      rw [Heap.get?_update_other _ _ (Ne.symm ne)]
      exact Heap.get?_push_of_some _ e
     have hns:ns' = ns:=by
      induction ns using List.casesOn with
      | nil=>exact a2.eq_nil
      | cons k ns =>
      induction ns using List.casesOn with
      | nil=>exact List.perm_singleton.mp a2
      | cons _ _=>exact absurd hl (by simp)
     subst hns
     refine x1a1 hend fun m hm=>?_;clear hend
     have hv:∀ {ρ':Va} {h:Heap} {vs:List Value} {ns:List Int},IntsAre vs ns→IsVs ρ' h (ns.map .int) vs:=fun x=>by
      induction x with
      | nil=>exact .nil
      | cons n t _ ih=>exact .cons .int ih
     have N:=R1.add (s':={ s with heap:=sortedHeap (h1.push (seqObj "list" acc.toList.toArray 0)) h1.objs.size acc.toList out,toks:=tk }) (o:=.list (ns'.map .int)) (a:=h1.objs.size) kk (Heap.get?_size_none _) (R1.new_off (Heap.get?_size_none _)) ⟨_,hm⟩ ⟨out.toList,⟨m,hm⟩,hv a1⟩ rfl rfl
     have tk1:TK s.heap (sortedHeap (h1.push (seqObj "list" acc.toList.toArray 0)) h1.objs.size acc.toList out):=TK.keeps fun b o e=>kk b o (hkeep b o e)
     exact GQ _ _ _ _ _ g2 ⟨le_more _ _,tk1,N⟩ R1.nxt_loc
   | _=>exact ft' h'
theorem maxI_ok (hh:A.handled = none) {us:List V} {args:List Value} {κ:KX} (h:biV T .max us σ κ = true) (R:Rel C F ρ σ s) (hu:IsVs ρ s.heap us args) (GQ:GoQ C F ρ s.heap κ Q):wpAny (model PW C.w) A (call (.builtin "max") args) Q E s:=by
 refine maxmin_ok h R hu GQ fun a b t u q=>max_two_ints hh fun h' tk hk=>?_
 have e:(match ltI a b with | true=>b | false=>a) = if b > a then b else a:=by rw [ltI_eq];by_cases z:a < b <;> simp [z]
 by_cases z:b > a
 ·rw [if_pos z] at e ⊢;rw [← e];exact q h' tk u hk
 ·rw [if_neg z] at e ⊢;rw [← e];exact q h' tk t hk
theorem minI_ok (hh:A.handled = none) {us:List V} {args:List Value} {κ:KX} (h:biV T .min us σ κ = true) (R:Rel C F ρ σ s) (hu:IsVs ρ s.heap us args) (GQ:GoQ C F ρ s.heap κ Q):wpAny (model PW C.w) A (call (.builtin "min") args) Q E s:=by
 refine maxmin_ok h R hu GQ fun a b t u q=>min_two_ints hh fun h' tk hk=>?_
 have e:(match ltI b a with | true=>b | false=>a) = if b < a then b else a:=by rw [ltI_eq];by_cases z:b < a <;> simp [z]
 by_cases z:b < a
 ·rw [if_pos z] at e ⊢;rw [← e];exact q h' tk u hk
 ·rw [if_neg z] at e ⊢;rw [← e];exact q h' tk t hk
theorem bi_ok (hS:∀ c cl,T.tx.cls.get c = some cl→cl.exc = false→ClsStr C.K c) (G:Gr C T) (hh:A.handled = none) {b:BI} {us:List V} {args:List Value} {κ:KX} (h:biV T b us σ κ = true) (R:Rel C F ρ σ s) (hu:IsVs ρ s.heap us args) (GQ:GoQ C F ρ s.heap κ Q) :
  wpAny (model PW C.w) A (call (.builtin b.id) args) Q E s:=by
 cases b with
 | len=>exact len_ok h R hu GQ
 | max=>exact maxI_ok hh h R hu GQ
 | min=>exact minI_ok hh h R hu GQ
 | isinstance=>exact isi_ok hS G h R hu GQ
 | sorted=>exact sorted_ok hh h R hu GQ
 | abs=>exact ft' h
theorem ty_ok {t:TY} {us:List V} {args:List Value} {κ:KX} (h:tyV t us σ κ = true) (R:Rel C F ρ σ s) (hu:IsVs ρ s.heap us args) (GQ:GoQ C F ρ s.heap κ Q):wpAny (model PW C.w) A (call (.type t.id) args) Q E s:=by
 induction t using TY.casesOn with
 | tuple=>exact tupleT_ok h R hu GQ
 | _=>exact ft' h
theorem kept_type {M:Model} {h:Heap} (i:String):Kept M h (.type i):=⟨.machine,.inr (.inl rfl),Looks.of_pure rfl⟩
end
end Mine
end
section
set_option maxHeartbeats 4000000
namespace Mine
structure KExcOK (K:Frag) (c:Addr) (kind:Str):Prop where
 ga:findIn K (.ref c) "__getattribute__" = some (some (.builtin "BaseException.__getattribute__"))
 hook:findIn K (.ref c) "__getattr__" = some none
 dict:hasDictIn K c = true
 plain:findIn K (.ref c) kind = some none
 base:mroIn K c (.type "BaseException") = some true
 self:mroIn K c (.ref c) = some true
 notTup:instIn K (.ref c) (.type "tuple") = some false
section
variable {prog:Program} {w:World} {A:Around} {E:Value→Shared→Prop} {s:Shared} {K:Frag} {x C:Addr} {ox:Obj} {od:Option Obj} {name:Str} {expr:Bool} {Q:Value→Shared→Prop}
theorem oga_value {v:Value} {tk:Tok} {P:Fin→Shared→Prop} (X:K.In s.heap) (I:InstAt s.heap x ox C od) (hf:findObj K C od name = some (.value v)) (h:P (.done (.ret v)) s) :
  wpAny (model prog w) A (Builtin.«object.__getattribute__» ⟨[.ref x,.str name tk],[]⟩) P E s:=by
 obtain ⟨hh,g,d,t,os⟩:=s
 have L0:=I.type (M:=model prog w)
 have L1:=looks_find (M:=model prog w) X I hf
 unfold Builtin.«object.__getattribute__»
 refine wpAny_bind (wpAny_pure ?_)
 exact wpAny_bind (wpAny_pure (wpAny_bind (L0.at (wpAny_bind (L1.at (wpAny_pure h))))))
theorem excGet {v:Value} (S:KExcOK K C name) (X:K.In s.heap) (I:InstAt s.heap x ox C (some od')) (hf:findObj K C (some od') name = some (.value v)) (hh:handedOut v = pure v) (h:Q v { s with toks:=s.toks + 1 }) :
  wpAny (model prog w) A (getAttr (.ref x) name expr) Q E s:=by
 obtain ⟨h0,g,d,t,os⟩:=s
 have L0:=I.type (M:=model prog w)
 have L1:=looks_findIn (M:=model prog w) X S.ga
 have L2:=looks_findIn (M:=model prog w) X S.hook
 have L3:Looks (model prog w) h0 (isInstance (.ref x) (.type "BaseException")) true:=L0.andThen (looks_mroIn X S.base)
 unfold getAttr getAttrBy
 refine wpAny_bind (wpAny_mkText (wpAny_holding (wpAny_bind (L0.at (wpAny_bind (L1.at ?_))))))
 show wpAny _ _ (getAttrByItsOwn _ _ _ _ _ _) _ _ _
 unfold getAttrByItsOwn
 refine wpAny_bind (m:=hookBefore (.ref C)) (L2.at ?_)
 refine wpAny_bind (wpAny_attempt (wpAny_holding ?_))
 have hx0:(expr && onTheHeap (Value.builtin "BaseException.__getattribute__")) = false:=by induction expr using Bool.casesOn <;> rfl
 unfold callGetattribute
 rw [hx0]
 have hb:bindSpecial (.builtin "BaseException.__getattribute__") (.ref x) = pure (.builtin "BaseException.__getattribute__",[.ref x]):=PySem.F.excAttr_ValueError.ga.bind (.ref x)
 unfold boundAndCalled
 rw [if_neg Bool.false_ne_true]
 rw [hb]
 refine wpAny_bind (wpAny_pure ?_)
 refine wpAny_call (codeAny_call_builtin PySem.F.excAttr_ValueError.ga.plain PySem.F.entry_bexc_ga ?_)
 have hk:builtinKind "BaseException.__getattribute__" = some .slot:=by decide +kernel
 have hsplit:splitId "BaseException.__getattribute__" = some ("BaseException","__getattribute__"):=by decide +kernel
 have ha:=PySem.F.args_bexc_ga (.ref x) (.str name t)
 show wpAny (model prog w) A.in1 (checkBuiltinCall "BaseException.__getattribute__" ⟨[.ref x,.str name t],[]⟩) _ _ _
 refine @check_slot (model prog w) _ _ _ "BaseException.__getattribute__" "BaseException" "__getattribute__" (.ref x) [.str name t] [] _ hk hsplit L3 ha ?_
 show wpAny (model prog w) A.in1 (Builtin.«object.__getattribute__» ⟨[.ref x,.str name t],[]⟩) _ _ _
 refine oga_value (s:=⟨h0,g,d,t + 1,os⟩) X I hf ?_
 show wpAny _ _ (handedOut v) _ _ _
 rw [hh]
 exact wpAny_pure h
set_option tactic.hygienic true in
theorem excMatches_ok {Q:Bool→Shared→Prop} (S:KExcOK K C name) (X:K.In s.heap) (I:InstAt s.heap x ox C od) (h:Q true s):wpAny (model prog w) A (excMatches (.ref x) (.ref C)) Q E s:=by
 obtain ⟨h0,g,d,t,os⟩:=s
 have L0:=I.type (M:=model prog w)
 have L1:=looks_instIn (M:=model prog w) X S.notTup
 have L2:=looks_mroIn (M:=model prog w) X S.base
 have L3:=looks_mroIn (M:=model prog w) X S.self
 have L4:Looks (model prog w) h0 (isType (.ref C)) true:=by
  have hd:=S.dict
  refine x1a2 (any_some hd :) fun cd hc _=>?_
  unfold clsIn at hc
  split at hc
  ·rename_i c' d' cd' sl' ho
   intro A' Q' E' s' k q
   unfold isType loadHead
   exact wpAny_bind (wpAny_loadPart (k _ _ (X _ _ ho)) (wpAny_pure q))
  ·exact nS' hc
 unfold excMatches
 refine wpAny_bind (L1.at ?_)
 simp only [Bool.false_eq_true,if_false]
 refine wpAny_bind (wpAny_pure ?_)
 rw [List.forIn_cons]
 unfold isExcClass
 refine wpAny_bind (wpAny_bind (wpAny_bind (wpAny_bind (L4.at ?_))))
 rw [if_pos rfl]
 refine L2.at ?_
 rw [if_neg Bool.false_ne_true]
 refine wpAny_pure ?_
 dsimp only
 rw [List.forIn_nil]
 refine wpAny_pure (wpAny_bind (L0.at ?_))
 rw [List.forIn_cons]
 refine wpAny_bind (wpAny_bind (wpAny_bind (L3.at ?_)))
 rw [if_pos rfl]
 exact wpAny_pure (wpAny_pure (wpAny_pure h))
end
end Mine
end
section
set_option backward.match.sparseCases true
set_option maxHeartbeats 4000000
namespace Mine
section
variable {C:SC} {T:Tk} {F:Fm} {ρ:Va} {σ:St} {s:Shared} {A:Around} {env:Env} {ks:Kd} {v:Ve} {Q E:Value→Shared→Prop}
theorem Rel.forget (R:Rel C F ρ σ s):Rel C F ρ { σ with cur:=[] } s where
 bk:=R.bk
 bn:=R.bn
 keep:=R.keep
 fresh:=R.fresh
 nodup:=R.nodup
 live:=R.live
 nxt:=R.nxt
 syn:=R.syn
 led:=R.led
 cur:=⟨R.cur.1,let ⟨mm,n,_⟩:=R.cur.2;⟨mm,n,fun x v e=>by exact nS' e⟩⟩
 fr:=R.fr
 held:=R.held
 tab:=R.tab
 gens:=R.gens
 os:=R.os
 frames:=R.frames
 fsL:=R.fsL
theorem Rel.renames {h':Heap} {t:Tok} (R:Rel C F ρ σ s) {mm mm':Str→Option Value} (hN:s.heap.Ns F.L mm) (hn:h'.Ns F.L mm') (hs:Heap.SameBut F.L s.heap h'):Rel C F ρ { σ with cur:=[] } { s with heap:=h',toks:=t }:=by
 have k:∀ b o,b≠F.L→s.heap.get? b = some o→h'.get? b = some o:=fun b o q e=>(hs.2 b q).trans e
 have tk:TK s.heap h':=TK.ns hN hs
 have hoff:∀ b∈ρ.adr,b≠F.L:=fun b hb q=>R.cur.1.adr (q▸hb)
 have hlive:∃ o,h'.get? F.L = some o:=x3a2 (hn) fun o _ _ e _=>⟨o,e⟩
 exact {
  bk:=fun b ob e=>k _ _ (fun z=>by rw [z,R.cur.1.base] at e;exact nS' e) (R.bk b ob e)
  bn:=R.bn
  keep:=fun b ob e q=>k _ _ (fun z=>by rw [z,R.cur.1.h0] at e;exact nS' e) (R.keep b ob e q)
  fresh:=R.fresh
  nodup:=R.nodup
  live:=fun b hb=>x1a1 (R.live b hb) fun o e=>⟨o,k _ _ (hoff b hb) e⟩
  nxt:=R.nxt
  syn:=R.syn
  led:=fun m om e=>x1a2 (R.led m om e) fun b p r=>⟨b,p,r.mono (Va.le.refl _) tk fun o e=>k _ _ (hoff b (List.mem_of_getElem? p)) e⟩
  cur:=⟨⟨R.cur.1.adr,R.cur.1.h0,hlive,R.cur.1.base⟩,_,hn,fun x v e=>by exact nS' e⟩
  fr:=fun p hp=>y22 (R.fr p hp) fun x y mm n m=>⟨⟨x.mono fun o e=>k _ _ y e,y⟩,mm,Ns_keep (fun o e=>k _ _ y e) n,m.mono (Va.le.refl _) tk⟩
  held:=fun p hp=>x0a4 (R.held p hp) fun x y z w=>⟨x.mono fun o e=>k _ _ y e,y,z,k _ _ y w⟩
  tab:=x1a3 (R.tab.tab) fun ps x y z=>⟨⟨ps,k _ _ (Ne.symm (C.off_P R.cur.1.h0)) x,y,fun pos cv e=>tk.code _ _ (z pos cv e)⟩⟩
  gens:=R.gens
  os:=R.os
  frames:=by
   have:∀ l,s.heap.FunFrames C.h0 l→h'.FunFrames C.h0 l:=by
    intro l
    induction l with
    | nil=>exact fun _=>trivial
    | cons env r ih =>
     (intro hz;refine x0a3 hz fun hk hm hr=>?_;refine x2a4 hm fun L ob hf hn' hob hd=>?_;clear hz hm)
     refine ⟨hk,?_,ih hr⟩
     by_cases q:L = F.L
     ·subst q
      refine x3a3 hn fun o2 es2 ep2 e2 d2 _=>?_;clear hn
      exact ⟨_,o2,hf,hn',e2,fun vs z=>by rw [d2] at z;cases z⟩
     ·exact ⟨L,ob,hf,hn',k _ _ q hob,hd⟩
   exact this _ R.frames
  fsL:=R.fsL }
theorem lay_none {b:List (Nat×V)} {σ:St} {κ:List (Nat×Nat)→St→Bool}:∀ {ns:List (Str×NameKind)},noCells ns = true→∀ cs,lay (ns.map fun p=>(key p.1,p.2)) b cs σ κ = κ cs σ
 | [],_,_=>rfl
 | (x,k) :: ns,h,cs=>by
  induction k using NameKind.casesOn with
  | cell=>exact ft' h
  | _=>exact lay_none (ns:=ns) h cs
theorem kindsOf_map (sc:Scope):kindsOf sc = sc.names.map fun p=>(key p.1,p.2):=by
 unfold kindsOf
 induction sc.names with
 | nil=>rfl
 | cons p r ih=>rw [List.map_cons,← ih]
noncomputable def keptBody (p1 p2 p3 p4 p5 p6 p7 p8 p9:Pos):List PySem.Stmt:=[.Try [.Return (some (.Call (.Name "ask" p1) [] [] p2)) p3] [.ExceptHandler (some (.Name "DesignError" p4)) (some "error") [.Return (some (.Attribute (.Name "error" p5) "kind" p6)) p7] p8] [] [] p9]
structure KeptOK (C:SC) (T:Tk) (G:Gr C T):Prop where
 def_:∃ fn fo fd p1 p2 p3 p4 p5 p6 p7 p8 p9,FnOK C T fn T.kept fo fd (keptBody p1 p2 p3 p4 p5 p6 p7 p8 p9)∧fn.params = [key "ask"]∧fn.dflts = []∧noCells fd.scope.names = true∧fd.scope.names.lookup ("ask":Str) = some .local∧fd.scope.names.lookup ("error":Str) = some .local ∧
  fd.scope.names.lookup ("DesignError":Str) = some .globalImplicit
 glob:G.mg "DesignError" = some (.ref T.kExc)
 exc:KExcOK C.K T.kExc "kind"
 kind:T.kKind = key "kind"
theorem kindA_at {u w:V} (h:kindA T u σ = some w):∃ n d m,u = .loc n∧σ.at n = some (.inst T.kExc d)∧σ.at d = some (.attrs m)∧lk m T.kKind = some w:=by
 refine x1a2 (mLoc h nS :) fun n e h=>?_
 refine x1a2 (mSome h nS :) fun o eo h=>?_
 induction o using O.casesOn with
 | inst c d =>
  have h:(match Nat.beq c T.kExc with | true=>attrD d T.kKind σ | false=>none) = some w:=h
  induction q:Nat.beq c T.kExc using Bool.casesOn with
  | false=>rw [q] at h;exact nS' h
  | true =>
   rw [q] at h
   refine x1a2 (mSome h nS :) fun o2 e2 h=>?_
   induction o2 using O.casesOn with
   | attrs m=>exact ⟨n,d,m,e,Nat.eq_of_beq_eq_true q▸eo,e2,h⟩
   | _=>exact nS' h
 | _=>exact nS' h
theorem kept_ok {G:Gr C T} (K:KeptOK C T G) (hL:LeaveOK C) {r:Rc} (hr:RcOK C r) {d:Nat} {us:List V} {args:List Value} {κ ε:KX} (h:one us (keptK T r d σ κ) = true) (h1:1≤d) (hd:d≤50) (Ar:Arnd A F d) (R:Rel C F ρ σ s) (hu:IsVs ρ s.heap us args)
  (GQ:GoQ C F ρ s.heap κ Q):codeAny (model PW C.w) A (.call (.ref T.kept) ⟨args,[]⟩) (CallR Q E) s:=by
 refine x12a7 (K.def_ :) fun fn fo fd p1 p2 p3 p4 p5 p6 p7 p8 p9 KF hpar hdf hnc hask herr hde=>?_
 refine x0a3 (okF_ok KF.scope :) fun hk hgen hco=>?_
 induction hu using IsVs.casesOn with
 | nil=>exact ft' h
 | @cons c cv us ws hc hr' =>
 induction hr' using IsVs.casesOn with
 | cons _ _=>exact ft' h
 | nil =>
 have h':r (d + 1) c [] { σ with cur:=[] } (back σ κ) (kindK T (back σ κ)) = true:=h
 have hroom:A.depth < recursionLimit:=by
  have:=Ar.depth
  have e1:claimMargin = 300:=rfl
  have e2:recursionLimit = 1000:=rfl
  lia
 have hb:bindP fn.params fn.dflts [c] = some [(key "ask",c)]:=by rw [hpar,hdf];rfl
 refine codeAny_call_function hroom (G.Xs R _ _ KF.at_) KF.data hco hgen KF.bodyE (R.code G KF.code) ?_
 refine enter_ok (κ:=fun _ σ1=>r (d + 1) c [] { σ1 with cur:=[] } (back σ κ) (kindK T (back σ κ))) G KF hb (.cons hc .nil) R ?_ fun env cs σ1 ρ1 s1 hκ he R1 hp htk hm=>?_
 ·rw [KF.kinds,kindsOf_map,lay_none hnc];exact h'
 refine ⟨G.lims R1,codeAny_func ?_⟩
 have hqual:env.scope = fd.scope:=by rw [he]
 have H:EnvOK C (A.deeper env) (Mine.inner F σ env s.heap.objs.size) env (kindsOf fd.scope) ⟨cs,d + 1⟩ ρ1:={
  glob:=by rw [he];exact ⟨rfl,rfl⟩
  loc:=by rw [he];rfl
  kind:=by rw [hqual];exact hk
  ks:=by rw [hqual]
  cells:=hm
  frames:=by show A.frames.map _ = _;rw [Ar.frames];rfl
  hand:=Ar.hand
  depth:=by show A.depth + 1≤2 + claimMargin + 3 * (d + 1);have:=Ar.depth;lia
  units:=by show A.units + 3≤20 + 20 * (d + 1);have:=Ar.units;lia
  dep:=by show d + 1≤60;lia
  law:=fun q=>by have:d + 1 = 1:=q;lia }
 have T1:Top1 (Mine.inner F σ env s.heap.objs.size) env:=⟨⟨F.fs,rfl⟩,by rw [he];rfl⟩
 have hkof:∀ y,env.kindOf y = fd.scope.names.lookup y:=fun y=>by rw [he];rfl
 have hcur:lk (locals fn.kinds [(key "ask",c)]) (key "ask") = some c:=by
  rw [lk_locals,KF.kinds,lk_kindsOf,hask]
  rfl
 have hc1:IsV ρ1 s1.heap c cv:=hc.mono hp htk
 have hloc:env.locals = s.heap.objs.size:=H.loc
 have back1:∀ ρ' σ' s' u uv,back σ κ u σ' = true→Next C (Mine.inner F σ env s.heap.objs.size) ρ1 s1.heap ρ' σ' s'→IsV ρ' s'.heap u uv→Q uv s':=fun ρ' σ' s' u uv hu' N hv=>GQ _ _ _ _ _ hu' (Next.leave R hp htk N) hv
 have main:∀ (Q':Flow→Shared→Prop) (E':Value→Shared→Prop),(∀ v s',Q v s'→Q' (.ret v) s') →
   wpAny (model PW C.w) (A.deeper env) (exec (.Try [.Return (some (.Call (.Name "ask" p1) [] [] p2)) p3] [.ExceptHandler (some (.Name "DesignError" p4)) (some "error") [.Return (some (.Attribute (.Name "error" p5) "kind" p6)) p7] p8] [] [] p9) env) Q' E' s1:=by
  intro Q' E' hQ'
  refine wpAny_Try_except (wpAny_execs_cons ?_)
  rw [arm_exec_Return]
  refine wpAny_bind (wpAny_standAt ?_)
  show wpAny _ _ (eval (.Call (.Name "ask" p1) [] [] p2) env >>= fun x=>pure (Flow.ret x)) _ _ _
  rw [eval_Call_plain (by intro _ _ _ q;cases q)]
  have hlk:loadK (lk (kindsOf fd.scope) (key "ask")) (key "ask") ⟨cs,d + 1⟩ { σ1 with cur:=locals fn.kinds [(key "ask",c)] } = some c:=by
   rw [lk_kindsOf,hask]
   exact hcur
  refine wpAny_bind (wpAny_bind (wpAny_Name (loadK_ok (p:=p1) hlk (by decide +kernel) H R1 fun vv hv=>?_) (by decide +kernel)))
  refine callWith_of (P:=fun h=>Kept (model PW C.w) h vv) rfl (fun h x=>x) (evalArgs_nil3 ?_)
  have Rf:=R1.forget
  have N1:Next C (Mine.inner F σ env s.heap.objs.size) ρ1 s1.heap ρ1 { σ1 with cur:=[] } s1:=⟨Va.le.refl _,TK.refl _,Rf⟩
  have key:=hr (d + 1) c [] { σ1 with cur:=[] } (back σ κ) (kindK T (back σ κ)) hκ (A.deeper env) (Mine.inner F σ env s.heap.objs.size) ρ1 s1 (fun v s'=>Q v s') (fun e s₁ =>
    wpAny (model PW C.w) (A.deeper env) (noteFrame e env) (fun _ s₂=>wpAny (model PW C.w) (A.deeper env) (setFlight e none) (fun _ s₃=>wpAny (model PW C.w) (A.deeper env) (handleBy e env [.ExceptHandler (some (.Name "DesignError" p4)) (some "error") [.Return (some (.Attribute (.Name "error" p5) "kind" p6)) p7] p8]) Q' E' s₃) E' s₂) E' s₁) vv [] H.ar Rf hv .nil
   (fun ρ' σ' s' u uv hu' N hv=>back1 ρ' σ' s' u uv hu' N hv) ?_
  ·exact ⟨key.1,wpAny_mono key.2.1 (fun v s' x=>wpAny_pure (hQ' v s' x)) fun _ _ x=>x⟩
  intro ρ' σ' s' u e hε N hx
  refine x1a2 (retO_ok hε :) fun w hw hκw=>?_
  refine noted_ok H.frames T1 N.rel hx fun s2 tk2 R2 N2=>flight_ok R2 N2 fun s3 tk3 R3 N3=>?_
  refine x3a4 (kindA_at hw :) fun n dd m q3q e1 e2 e3=>?_;subst q3q
  have hnot:=N3
  refine x5a5 N3 fun n' a ox vs Tb g1 q6q hin ha hrest=>?_;clear N3;subst q6q
  cases g1
  refine x6a1 (R3.inst ha e1 e2 :) fun ox2 od dx es kk mm2 I=>?_
  refine x0a2 (globals_main H :) fun eg' eb'=>?_
  have hpre:=N.pre
  refine wpAny_handleBy_cons (codeAny_handlers_test ?_) (by intro q;cases q)
  refine Name_function_global H.kind (by rw [hkof];exact hde) (loadGlobal_global (eg'▸G.gs R3) K.glob ?_) (by decide +kernel)
  refine excMatches_ok K.exc (G.Xs R3) I.at_ ?_
  dsimp only
  refine codeAny_handlers_suite_as ?_
  refine flight_ok R3 hnot fun s4 tk4 R4 N4=>?_
  refine y12 R4.cur fun hoff4 mm4 hN4 hM4=>?_
  have hkerr:env.kindOf "error" = some .local:=by rw [hkof];exact herr
  refine wpAny_storeName_local hkerr (H.loc▸hN4) (fun h5 hn5 hs5=>?_) (by rw [H.kind];rfl)
  rw [H.loc] at hn5 hs5
  have R5:=R4.store (t:=s4.toks + 1) hN4 hM4 hn5 hs5 (IsV.loc (n:=n) ha)
  have tk5:=TK.ns hN4 hs5
  refine wpAny_execs_cons ?_
  rw [arm_exec_Return]
  refine wpAny_bind (wpAny_standAt ?_)
  show wpAny _ _ (eval (.Attribute (.Name "error" p5) "kind" p6) env >>= fun x=>pure (Flow.ret x)) _ _ _
  rw [arm_eval_Attribute]
  have hab:attributeBase (.Name "error" p5) "kind" env (eval (.Name "error" p5) env) = eval (.Name "error" p5) env:=rfl
  rw [hab]
  refine wpAny_bind (wpAny_bind (wpAny_Name (wpAny_loadName_local (v:=.ref a) H.kind hkerr (H.loc▸hn5) (if_pos rfl) ?_) (by decide +kernel)))
  refine x6a1 (R5.inst ha e1 e2 :) fun ox5 od5 dx5 es5 kk5 mm5 I5=>?_
  have e3':lk m (key "kind") = some w:=K.kind▸e3
  refine x1a2 (I5.is.some e3' :) fun ww hm5 hi=>?_
  refine wpAny_bind (wpAny_standAt (wpAny_bind (wpAny_holding (excGet K.exc (G.Xs R5) I5.at_ (findObj_own K.exc.dict K.exc.plain rfl (by rw [lookIn_ns I5.data I5.keys I5.ns "kind",hm5])) (handedOut_of (handed hi)) ?_))))
  refine wpAny_bind (wpAny_letTemporaryGo (wpAny_pure (wpAny_pure ?_)))
  dsimp only
  refine wpAny_nameGoes hkerr (H.loc▸hn5) (by rw [H.kind];rfl) fun h6 m6 hn6 hs6=>?_
  rw [H.loc] at hn6 hs6
  have R6:=fun t=>(R5.toks (s4.toks + 1 + 1)).renames (t:=t) hn5 hn6 hs6
  have tk6:=(((N.tk.trans tk2).trans tk3).trans tk4).trans (tk5.trans (TK.ns hn5 hs6))
  have N6:=fun t=>Next.leave R hp htk ⟨hpre,tk6,R6 t⟩
  exact hQ' _ _ (GQ ρ' { σ' with cur:=σ.cur } _ _ _ hκw (N6 _) (hi.mono (Va.le.refl _) (TK.ns hn5 hs6)))
 exact wpAny_execs_cons (main _ _ fun v s' x=>x)
end
end Mine
end
section
set_option maxHeartbeats 4000000
namespace Mine
noncomputable def compF (F:Fm) (σ:St) (L:Addr):Fm:=⟨F.fs,L,(F.L,σ.cur) :: F.fr,F.held⟩
section
variable {C:SC} {T:Tk} {F:Fm} {ρ ρ':Va} {σ σ':St} {s s':Shared} {h:Heap} {A:Around} {env:Env} {ks:Kd} {v:Ve} {Q E:Value→Shared→Prop}
theorem Rel.comp {L:Addr} {mm:Str→Option Value} {cur':List (Nat×V)} (R:Rel C F ρ σ s) (hL:L ∉ ρ.adr) (h0:C.h0.get? L = none) (hb:C.base.get? L = none) (hns:s.heap.Ns L mm) (hm:NsHas ρ s.heap cur' mm) (n1:F.L≠L) (n2:∀ p∈F.fr,p.1≠L) (n3:∀ p∈F.held,p.1≠L) :
  Rel C (compF F σ L) ρ { σ with cur:=cur' } s where
 bk:=R.bk
 bn:=R.bn
 keep:=R.keep
 fresh:=R.fresh
 nodup:=R.nodup
 live:=R.live
 nxt:=R.nxt
 syn:=R.syn
 led:=R.led
 cur:=⟨⟨hL,h0,x3a2 (hns) fun o _ _ e _=>⟨o,e⟩,hb⟩,mm,hns,hm⟩
 fr:=fun p hp=>by
  rcases List.mem_cons.mp hp with rfl | hp
  ·exact ⟨⟨R.cur.1,n1⟩,R.cur.2⟩
  ·exact ⟨⟨(R.fr p hp).1.1,n2 p hp⟩,(R.fr p hp).2⟩
 held:=fun p hp=>by
  refine x0a4 (R.held p hp :) fun q1 q2 q3 q4=>?_
  refine ⟨q1,n3 p hp,fun q hq=>?_,q4⟩
  rcases List.mem_cons.mp hq with rfl | hq
  ·exact q2
  ·exact q3 q hq
 tab:=R.tab
 gens:=R.gens
 os:=R.os
 frames:=R.frames
 fsL:=fun e2 he2 b2 hf2=>by
  rcases R.fsL e2 he2 b2 hf2 with q | ⟨p,hp,q⟩
  ·exact .inr ⟨_,.head _,q⟩
  ·exact .inr ⟨p,.tail _ hp,q⟩
theorem Rel.uncomp {L:Addr} (R:Rel C F ρ σ s) (R':Rel C (compF F σ L) ρ' σ' s'):Rel C F ρ' { σ' with cur:=σ.cur } s' where
 bk:=R'.bk
 bn:=R'.bn
 keep:=R'.keep
 fresh:=R'.fresh
 nodup:=R'.nodup
 live:=R'.live
 nxt:=R'.nxt
 syn:=R'.syn
 led:=R'.led
 cur:=let h:=R'.fr _ (.head _);⟨h.1.1,h.2⟩
 fr:=fun p hp=>let h:=R'.fr p (.tail _ hp);⟨⟨h.1.1,(R.fr p hp).1.2⟩,h.2⟩
 held:=fun p hp=>let h:=R'.held p hp;⟨h.1,h.2.2.1 _ (.head _),fun q hq=>h.2.2.1 q (.tail _ hq),h.2.2.2⟩
 tab:=R'.tab
 gens:=R'.gens
 os:=R'.os
 frames:=R'.frames
 fsL:=R.fsL
theorem isLocK_ok {k:Option NameKind} (h:isLocK k = true):k = some .local:=by
 induction k using Option.casesOn with
 | none=>exact ft' h
 | some k=>induction k using NameKind.casesOn <;> first | rfl | exact ft' h
theorem allLoc_ok {sc:Scope} (h:allLoc sc = true):∀ y∈sc.names,y.2 = .local→sc.names.lookup y.1 = some .local:=by
 have:∀ l:List (Str×NameKind),(List.rec (motive:=fun _=>Bool) true (fun p _ ih=>match p.2 with | .local=>(match isLocK (lk (kindsOf sc) (key p.1)) with | true=>ih | false=>false) | _=>ih) l) = true→∀ y∈l,y.2 = .local→sc.names.lookup y.1 = some .local:=by
  intro l
  induction l with
  | nil=>intro _ y hy;cases hy
  | cons p r ih =>
   obtain ⟨x,k⟩:=p
   intro hl y hy
   induction k using NameKind.casesOn with
   | «local» =>
    induction e:isLocK (lk (kindsOf sc) (key x)) using Bool.casesOn with
    | false =>
     dsimp only at hl
     rw [e] at hl;exact ft' hl
    | true =>
     dsimp only at hl
     rw [e] at hl
     rcases List.mem_cons.mp hy with rfl | hy
     ·intro _
      have:=isLocK_ok e
      rwa [lk_kindsOf] at this
     ·exact ih hl y hy
   | _ =>
    rcases List.mem_cons.mp hy with rfl | hy
    ·intro q;cases q
    ·exact ih hl y hy
 exact this _ h
theorem noCells_ok {l:List (Str×NameKind)} (h:noCells l = true):∀ x∈l,x.2≠.cell:=by
 induction l with
 | nil=>intro x hx;cases hx
 | cons p r ih =>
  intro x hx
  obtain ⟨y,k⟩:=p
  rcases List.mem_cons.mp hx with rfl | hx
  ·intro q
   dsimp only at q
   subst q
   exact ft' h
  ·refine ih ?_ x hx
   induction k using NameKind.casesOn with
   | cell=>exact ft' h
   | _=>exact h
theorem okComp_ok {sc:Scope} {x:Str} (h:okComp sc (key x) = true):sc.kind = .function∧(∀ y∈sc.names,y.2≠.cell)∧(∀ y∈sc.names,y.2 = .local→sc.names.lookup y.1 = some .local)∧sc.names.lookup x = some .local:=by
 refine x0a2 (ifB_ok h :) fun h1 h2=>?_
 refine x0a2 (ifB_ok h2 :) fun h3 h4=>?_
 refine x0a2 (ifB_ok h4 :) fun h5 h6=>?_
 refine ⟨?_,noCells_ok h3,allLoc_ok h5,?_⟩
 ·cases e:sc.kind <;> rw [e] at h1 <;> first | rfl | exact ft' h1
 ·have:=isLocK_ok h6
  rwa [lk_kindsOf] at this
theorem relK_ok {sc:Scope} (hk:env.scope.kind = .function) (hks:ks = kindsOf env.scope):relK ks sc.names = kindsOf (relabel sc env):=by
 rw [kindsOf_map]
 unfold relabel
 dsimp only
 unfold relK
 induction sc.names with
 | nil=>rfl
 | cons p r ih =>
  obtain ⟨x,k⟩:=p
  rw [List.map_cons,List.map_cons,← ih]
  have e:lk ks (key x) = env.kindOf x:=by rw [hks,lk_kindsOf];rfl
  show (key x,rel1 k (lk ks (key x))) :: _ = _
  rw [e]
  congr 1
  rw [hk]
  induction k using NameKind.casesOn with
  | free =>
   induction h:env.kindOf x using Option.casesOn with
   | none=>rfl
   | some k2=>induction k2 using NameKind.casesOn <;> rfl
  | _=>induction h:env.kindOf x using Option.casesOn <;> rfl
theorem compVe_ok {sc:Scope} {f:Ve→Bool} (h:compVe v sc f = true):1≤v.dep∧v.dep≤50∧∃ cs,capt v.cells sc.names = some cs∧f ⟨cs,v.dep + 1⟩ = true:=by
 refine x0a2 (ifB_ok h :) fun h1 h2=>?_
 refine x0a2 (ifB_ok h1 :) fun h3 h4=>?_
 refine ⟨Nat.le_of_ble_eq_true h3,Nat.le_of_ble_eq_true h4,?_⟩
 induction e:capt v.cells sc.names using Option.casesOn with
 | none=>rw [e] at h2;exact ft' h2
 | some cs=>rw [e] at h2;exact ⟨cs,rfl,h2⟩
theorem EnvOK.comp {sc:Scope} {cs:List (Nat×Nat)} {cl:List (Str×Addr)} {L:Addr} (H:EnvOK C A F env ks v ρ) (hk:sc.kind = .function) (h1:1≤v.dep) (h2:v.dep≤50) (hmap:∀ x n,lk cs (key x) = some n→∃ c,cl.lookup x = some c∧ρ'.adr[n]? = some c) :
  EnvOK C A (compF F σ L) (compEnvC sc cl L env) (relK ks sc.names) ⟨cs,v.dep + 1⟩ ρ' where
 glob:=H.glob
 loc:=rfl
 kind:=hk
 ks:=relK_ok H.kind H.ks
 cells:=hmap
 frames:=H.frames
 hand:=H.hand
 depth:=by have:=H.depth;show A.depth≤2 + claimMargin + 3 * (v.dep + 1);lia
 units:=by have:=H.units;show A.units≤20 + 20 * (v.dep + 1);lia
 dep:=by show v.dep + 1≤60;lia
 law:=fun q=>by have:v.dep + 1 = 1:=q;lia
theorem setItem_gen {W:Prop} {n:Nat} {a:Addr} {i w:V} {iv wv:Value} (h:Mine.setItem (.loc n) i w σ = some σ') (R:Rel C F ρ σ s) (ha:ρ.adr[n]? = some a) (hi:IsV ρ s.heap i iv) (hw:IsV ρ s.heap w wv)
  (rule:∀ (K:Type) [DecidableEq K] (knd:KeyKind PW C.w K) (k:K) (kvs:List (K×Value)),knd.is k iv = true→s.heap.DictOf knd a kvs→kvs.length≤sizeLine →
   (∀ h',h'.DictOf knd a (stored kvs k wv)→Heap.SameBut a s.heap h'→Next C F ρ s.heap ρ σ' { s with heap:=h',toks:=s.toks + 1 })→W):W:=by
 unfold Mine.setItem at h
 dsimp only at h
 induction eo:σ.at n using Option.casesOn with
 | none=>rw [eo] at h;exact nS' h
 | some o =>
  rw [eo] at h
  have io:=R.thing ha eo
  have go:∀ {K:Type} [DecidableEq K] {knd:KeyKind PW C.w K} {k:K} {kvs:List (K×Value)} {o':O},knd.is k iv = true→s.heap.DictOf knd a kvs→kvs.length≤1000000→σ.fz≤n →
    (∀ h',h'.DictOf knd a (stored kvs k wv)→TK s.heap h'→IsO C ρ h' a o')→σ' = σ.put n o'→W:=by
   intro K _ knd k kvs o' hk hd hl hz H hσ
   refine rule K knd k kvs hk hd (fits_line hl) fun h' hd' hs'=>?_
   refine x3a4 (id hd :) fun od es ep e hx dd _=>?_
   have nt:od.cls≠.type "tuple":=by
    refine x1a2 (hd.mapOf.typeIs :) fun _ hT hc=>?_
    rw [e] at hT;(refine jS hT fun j=>?_;clear hT;subst j)
    rw [hc];decide
   refine x3a2 (id hd' :) fun od' es' ep' e' _=>?_
   rw [hσ]
   exact R.turned (o':=o') (h':=h') (s.toks + 1) ha hz e nt (fun vs q t z=>by rw [dd] at z;cases z) hs' ⟨_,e'⟩ fun tk=>H h' hd' tk
  induction hi using IsV.casesOn with
  | @str x t =>
   induction o using O.casesOn with
   | sdict m =>
    obtain ⟨hs,kvs,hd,hk⟩:=io
    refine x0a2 (onO_ok (b:=fitsN (len m)) h :) fun h1 h2=>?_
    refine x0a2 (putZ_ok h2 :) fun hz h3=>?_
    have hf:=fitsN_ok h1
    rw [len_eq,hk.length] at hf
    refine x3a6 (id hd :) fun _ _ _ _ _ _ _ _ hnd=>?_
    exact go (o':=.sdict (up m (key x) w)) (strKind_is _ _ x t) hd hf hz (fun h' hd' tk=>⟨hs,_,hd',(hk.mono (Va.le.refl _) tk).stored (hw.mono (Va.le.refl _) tk) hnd⟩) h3
   | edict =>
    refine x0a3 io fun hs d1 d2=>?_;clear io
    refine x0a2 (putZ_ok (show σ.putZ n (.sdict [(key x,w)]) = some σ' from h) :) fun hz h3=>?_
    exact go (o':=.sdict [(key x,w)]) (strKind_is _ _ x t) d1 (by simp) hz (fun h' hd' tk=>⟨hs,_,hd',.cons rfl (hw.mono (Va.le.refl _) tk) .nil⟩) h3
   | _=>exact nS' h
  | @int x t =>
   induction o using O.casesOn with
   | idict m =>
    obtain ⟨hs,kvs,hd,hk⟩:=io
    refine x0a2 (onO_ok (b:=fitsN (len m)) h :) fun h1 h2=>?_
    refine x0a2 (putZ_ok h2 :) fun hz h3=>?_
    have hf:=fitsN_ok h1
    rw [len_eq,hk.length] at hf
    refine x3a6 (id hd :) fun _ _ _ _ _ _ _ _ hnd=>?_
    exact go (o':=.idict (upI m x w)) (intKind_is _ _ x t) hd hf hz (fun h' hd' tk=>⟨hs,_,hd',(hk.mono (Va.le.refl _) tk).stored (hw.mono (Va.le.refl _) tk) hnd⟩) h3
   | edict =>
    refine x0a3 io fun hs d1 d2=>?_;clear io
    refine x0a2 (putZ_ok (show σ.putZ n (.idict [(x,w)]) = some σ' from h) :) fun hz h3=>?_
    exact go (o':=.idict [(x,w)]) (intKind_is _ _ x t) d2 (by simp) hz (fun h' hd' tk=>⟨hs,_,hd',.cons (hw.mono (Va.le.refl _) tk) .nil⟩) h3
   | _=>exact nS' h
  | _=>exact nS' h
end
end Mine
end
section
set_option maxHeartbeats 4000000
namespace Mine
section
variable {C:SC} {T:Tk} {F:Fm} {ρ ρ':Va} {σ σ':St} {s s':Shared} {h:Heap} {A:Around} {env:Env} {ks:Kd} {v:Ve} {Q E:Value→Shared→Prop} {cx:PySem.Expr→Mine.C} {r:Rc}
theorem accL_at {inner:Mine.C} {x n:Nat} {l:List V} {v:Ve} {κ:St→Bool} {i:Nat} (h:ifB (Nat.ble i l.length) (accL inner x n (l.drop i) r v σ κ) false = true) :
  i≤l.length∧((l[i]? = none∧κ σ = true)∨∃ u,l[i]? = some u∧inner.x r v (σ.set x u) (fun w σ'=>appendA n [w] σ' (fun _ σ''=>ifB (Nat.ble (i + 1) l.length) (accL inner x n (l.drop (i + 1)) r v σ'' κ) false)) noE = true):=by
 refine x0a2 (ifB_ok h :) fun h1 h2=>?_
 have hle:=Nat.le_of_ble_eq_true h1
 refine ⟨hle,?_⟩
 by_cases hi:i < l.length
 ·rw [List.drop_eq_getElem_cons hi] at h2
  refine .inr ⟨l[i],List.getElem?_eq_getElem hi,?_⟩
  have hb:Nat.ble (i + 1) l.length = true:=Nat.ble_eq_true_of_le hi
  rw [hb]
  exact h2
 ·have e:l.drop i = []:=List.drop_eq_nil_of_le (by lia)
  rw [e] at h2
  exact .inl ⟨List.getElem?_eq_none (by lia),h2⟩
theorem accD_at {inner:Mine.C} {x n:Nat} {l:List V} {v:Ve} {κ:St→Bool} {i:Nat} (h:ifB (Nat.ble i l.length) (accD inner x n (l.drop i) r v σ κ) false = true) :
  i≤l.length∧((l[i]? = none∧κ σ = true)∨∃ u,l[i]? = some u∧inner.x r v (σ.set x u) (fun w σ'=>match setItem (.loc n) u w σ' with | some σ''=>ifB (Nat.ble (i + 1) l.length) (accD inner x n (l.drop (i + 1)) r v σ'' κ) false | none=>false) noE = true):=by
 refine x0a2 (ifB_ok h :) fun h1 h2=>?_
 have hle:=Nat.le_of_ble_eq_true h1
 refine ⟨hle,?_⟩
 by_cases hi:i < l.length
 ·rw [List.drop_eq_getElem_cons hi] at h2
  refine .inr ⟨l[i],List.getElem?_eq_getElem hi,?_⟩
  have hb:Nat.ble (i + 1) l.length = true:=Nat.ble_eq_true_of_le hi
  rw [hb]
  exact h2
 ·have e:l.drop i = []:=List.drop_eq_nil_of_le (by lia)
  rw [e] at h2
  exact .inl ⟨List.getElem?_eq_none (by lia),h2⟩
theorem compNew {o:O} {ob:Obj} {I:Addr} {oi:Obj} {sc:Scope} {cl:List (Str×Addr)} {cs:List (Nat×Nat)} {QQ:Addr→Env→Shared→Prop} (R:Rel C (hold F I oi) ρ σ s) (H:EnvOK C A F env ks v ρ) (hfree:ob.isFreed = false)
  (ho:IsO C ⟨ρ.adr++[s.heap.objs.size],ρ.sym⟩ (s.heap.push ob) s.heap.objs.size o) (hk:sc.kind = .function) (hnc:∀ y∈sc.names,y.2≠.cell) (h1:1≤v.dep) (h2:v.dep≤50)
  (hmap:∀ x n,lk cs (key x) = some n→∃ c,cl.lookup x = some c∧ρ.adr[n]? = some c)
  (hQ:∀ L s',Next C (hold F I oi) ρ s.heap ⟨ρ.adr++[s.heap.objs.size],ρ.sym⟩ (σ.new o) s'→Rel C (hold (compF F σ L) I oi) ⟨ρ.adr++[s.heap.objs.size],ρ.sym⟩ { (σ.new o) with cur:=[] } s' →
   EnvOK C A (hold (compF F σ L) I oi) (compEnvC sc cl L env) (relK ks sc.names) ⟨cs,v.dep + 1⟩ ⟨ρ.adr++[s.heap.objs.size],ρ.sym⟩→QQ L (compEnvC sc cl L env) s') :
  wpAny (model PW C.w) A (newFunctionEnv sc env.globals cl [] env.qual none .none (some env)) (fun cenv s₄=>QQ cenv.locals { cenv with scope:=relabel sc env } s₄) E { s with heap:=s.heap.push ob }:=by
 have N1:=R.push (o:=o) (ob:=ob) hfree s.toks ho
 have R1:=N1.rel
 refine x0a4 (R1.lt :) fun l1 l2 l3 l4=>?_
 refine x0a2 (R1.above :) fun a1 a2=>?_
 refine wpAny_newFunctionEnv hnc (fun _ q=>by cases q) (fun h₁ hns hsb=>?_) hk
 have hk₁:∀ b ob',(s.heap.push ob).get? b = some ob'→h₁.get? b = some ob':=fun b ob' e=>hsb.extBut b ob' (Nat.ne_of_lt (Heap.lt_size e)) (Heap.get?_push_of_some _ e)
 have R2:Rel C (hold F I oi) ⟨ρ.adr++[s.heap.objs.size],ρ.sym⟩ (σ.new o) { s with heap:=h₁,toks:=s.toks + 0 }:=R1.grow (s':={ s with heap:=h₁,toks:=s.toks + 0 }) hk₁ rfl rfl
 have R3:=R2.comp (L:=(s.heap.push ob).objs.size) (cur':=[]) (fun q=>Nat.lt_irrefl _ (l1 _ q)) (a1 _ (Nat.le_refl _)) (a2 _ (Nat.le_refl _)) hns (fun x v e=>by exact nS' e) (Nat.ne_of_lt l2) (fun p hp=>Nat.ne_of_lt (l3 p hp)) (fun p hp=>Nat.ne_of_lt (l4 p hp))
 exact hQ _ _ ⟨N1.pre,N1.tk.trans (TK.keeps hk₁),R2⟩ R3 ((H.comp (σ:=σ) (L:=(s.heap.push ob).objs.size) hk h1 h2 fun x n e=>x1a2 (hmap x n e) fun c p q=>⟨c,p,getpre (le_more _ _).adr q⟩).hold)
theorem noE_go {F:Fm} {ρ:Va} {h:Heap} {E:Value→Shared→Prop}:GoE C F ρ h noE E:=fun _ _ _ _ _ q=>(Bool.false_ne_true q).elim
theorem listLoop_ok (G:Gr C T) {ks':Kd} {elt iter:PySem.Expr} {x:Str} {px pos:Pos} {sc:Scope} {inner:Mine.C} (hi:WC C ks' r elt inner) {F':Fm} {I D:Addr} {o:Obj} {k:Int} {n:Nat} {cenv:Env} {v':Ve} {κ:St→Bool} {RR:Result→Shared→Prop}
  (hI:∀ p∈F'.held,I≠p.1) (H:EnvOK C A (hold F' I o) cenv ks' v' ρ) (hx:cenv.kindOf x = some .local) (R:Rel C (hold F' I o) ρ σ s) (hD:ρ.adr[n]? = some D)
  (ho:o = { cls:=.type "range_iterator",data:=.fields #[rawInt 0,rawInt (natI k:Int),rawInt 1] }) (hg:accL inner (key x) n (rangeL 0 (natI k)) r v' σ κ = true)
  (hQ:∀ ρ' σ' s',κ σ' = true→ρ.le ρ'→TK s.heap s'.heap→Rel C F' ρ' σ' s'→RR (.ok .next) s') :
  codeAny (model PW C.w) A (.compLoop (.ListComp elt [⟨.Name x px,iter,[],0⟩] sc pos) 0 (.ref I) (.ref D) cenv) RR s:=by
 generalize hl:rangeL 0 (natI k) = l at hg
 have hlen:l.length = natI k:=by rw [← hl,rangeL_length]
 have hst:ifB (Nat.ble 0 l.length) (accL inner (key x) n (l.drop 0) r v' σ κ) false = true:=by
  rw [Nat.ble_eq_true_of_le (Nat.zero_le _),List.drop_zero];exact hg
 have HE:∀ {o':Obj} {ρ':Va},ρ.le ρ'→EnvOK C A (hold F' I o') cenv ks' v' ρ':=fun hp=>{ H.mono hp with }
 refine codeAny_compLoop_tests (fun m s'=>∃ i σ' ρ' o',m = l.length + 1 - i∧ifB (Nat.ble i l.length) (accL inner (key x) n (l.drop i) r v' σ' κ) false = true∧Rel C (hold F' I o') ρ' σ' s' ∧
  o' = { cls:=.type "range_iterator",data:=.fields #[rawInt (i:Nat),rawInt ((natI k:Int) - i),rawInt 1] }∧ρ.le ρ'∧TK s.heap s'.heap) ?_ (l.length + 1) (m4a6 0 σ ρ o rfl hst R (by rw [ho];simp) (Va.le.refl _) (TK.refl _))
 intro m s' hz
 refine x4a6 hz fun i σ' ρ' o' qm hgo R' ho' hp' htk'=>?_;clear hz;subst qm
 refine x0a4 (R'.held (_,_) (.head _) :) fun _ _ _ hat=>?_
 have xo:ItOk o':=by rw [ho'];exact ⟨⟨_,rfl,fun q t z=>by simp [rawInt] at z⟩,⟨_,rfl,by decide,by decide⟩⟩
 rw [ho'] at hat
 refine x0a2 (accL_at hgo :) fun hle hcase=>?_
 rcases hcase with ⟨he,hκ⟩ | ⟨u,hu,hgo2⟩
 ·have h1:=List.getElem?_eq_none_iff.mp he
  refine wpAny_pyNext_range_end (x:=(i:Nat)) (left:=(natI k:Int) - i) (step:=1) H.hand hat (by rw [hlen] at h1;lia) fun h' hx=>?_
  refine x0a2 (R'.spent (h':=h') (t:=s'.toks) hI xo fun b ob q e=>hx b ob q e :) fun R1 tk1=>?_
  exact hQ _ _ _ hκ hp' (htk'.trans tk1) R1
 ·rw [← hl] at hu
  refine x0a2 (rangeL_get hu :) fun h1 q1q=>?_;subst q1q
  refine wpAny_pyNext_range_item (x:=(i:Nat)) (left:=(natI k:Int) - i) (step:=1) hat (by lia) fun h' hit' hs'=>?_
  have e1:((i:Nat):Int) + 1 = ((i + 1:Nat):Int):=rfl
  have e2:(natI k:Int) - (i:Nat) - 1 = (natI k:Int) - ((i + 1:Nat):Int):=Int.sub_sub ..
  rw [e1,e2] at hit'
  refine x0a2 (R'.reheld (h':=h') (t:=s'.toks + 1) hI xo hs' hit' :) fun R1 tk1=>?_
  refine y12 R1.cur fun hoff mm hn hm=>?_
  have hloc:cenv.locals = F'.L:=H.loc
  refine wpAny_assign_Name (wpAny_storeName_local hx (hloc▸hn) (fun h2 hn2 hs2=>?_) (by rw [H.kind];rfl))
  rw [hloc] at hn2 hs2
  have R2:=R1.store (t:=s'.toks + 1 + 1) hn hm hn2 hs2 (IsV.int (ρ:=ρ') (h:=h') (i:=(i:Nat)) (t:=s'.toks))
  have tk2:=TK.ns hn hs2
  rw [List.forIn_nil]
  refine wpAny_pure ?_
  rw [if_pos rfl]
  rw [Int.zero_add] at hgo2
  have hilt:i < l.length:=by rw [hlen];exact h1
  refine hi.x v' _ _ noE hgo2 A (hold F' I _) cenv ρ' _ _ _ (HE hp') R2 ?_ noE_go
  intro ρ3 σ3 s3 w wv hw N3 hwv
  refine x1a2 (appendA_at hw :) fun ys ey hw2=>?_
  refine append_ok hw2 ey (getpre (hp'.trans N3.pre).adr hD) N3.rel (.cons hwv .nil) ?_
  intro ρ4 σ4 s4 _ _ hκ N4 _
  exact ⟨l.length + 1 - (i + 1),Nat.sub_lt_sub_left (Nat.lt_succ_of_lt hilt) (Nat.lt_succ_self i),m4a6 (i + 1) σ4 ρ4 _ rfl hκ N4.rel rfl ((hp'.trans N3.pre).trans N4.pre) ((((htk'.trans tk1).trans tk2).trans N3.tk).trans N4.tk)⟩
theorem dictLoop_ok (G:Gr C T) {ks':Kd} {val iter:PySem.Expr} {x:Str} {px pk pos:Pos} {sc:Scope} {inner:Mine.C} (hi:WC C ks' r val inner) {F':Fm} {I D a:Addr} {o:Obj} {l:List V} {vs:List Value} {n:Nat} {cenv:Env} {v':Ve} {κ:St→Bool} {RR:Result→Shared→Prop}
  (hI:∀ p∈F'.held,I≠p.1) (H:EnvOK C A (hold F' I o) cenv ks' v' ρ) (hx:cenv.kindOf x = some .local) (hodd:oddName (key x) = false) (R:Rel C (hold F' I o) ρ σ s) (hD:ρ.adr[n]? = some D) (ht:IsTup s.heap a vs.toArray) (hlv:IsVs ρ s.heap l vs)
  (ho:o.cls = .type "tuple_iterator"∧o.data = .fields #[.ref a,.int (0:Nat) 0]) (hg:accD inner (key x) n l r v' σ κ = true)
  (hQ:∀ ρ' σ' s',κ σ' = true→ρ.le ρ'→TK s.heap s'.heap→Rel C F' ρ' σ' s'→RR (.ok .next) s') :
  codeAny (model PW C.w) A (.compLoop (.DictComp (.Name x pk) val [⟨.Name x px,iter,[],0⟩] sc pos) 0 (.ref I) (.ref D) cenv) RR s:=by
 have hst:ifB (Nat.ble 0 l.length) (accD inner (key x) n (l.drop 0) r v' σ κ) false = true:=by
  rw [Nat.ble_eq_true_of_le (Nat.zero_le _),List.drop_zero];exact hg
 have HE:∀ {o':Obj} {ρ':Va},ρ.le ρ'→EnvOK C A (hold F' I o') cenv ks' v' ρ':=fun hp=>{ H.mono hp with }
 refine codeAny_compLoop_testsD (fun m s'=>∃ i σ' ρ' o',m = l.length + 1 - i∧ifB (Nat.ble i l.length) (accD inner (key x) n (l.drop i) r v' σ' κ) false = true∧Rel C (hold F' I o') ρ' σ' s' ∧
  (o'.cls = .type "tuple_iterator"∧o'.data = .fields #[.ref a,.int (i:Nat) 0])∧ρ.le ρ'∧TK s.heap s'.heap) ?_ (l.length + 1) (m4a6 0 σ ρ o rfl hst R ho (Va.le.refl _) (TK.refl _))
 intro m s' hz
 refine x4a6 hz fun i σ' ρ' o' qm hgo R' hoo hp' htk'=>?_;clear hz;subst qm
 refine x0a2 hoo fun hoc hod=>?_;clear hoo
 refine x0a4 (R'.held (_,_) (.head _) :) fun _ _ _ hat=>?_
 have xo:ItOk o':=⟨⟨_,hod,fun q t z=>by simp at z⟩,⟨_,hoc,by decide,by decide⟩⟩
 have hit:s'.heap.IsTupleIter I a i:=⟨o',hat,hoc,hod⟩
 have ht':=htk'.tup _ _ ht
 refine x0a2 (accD_at hgo :) fun hle hcase=>?_
 rcases hcase with ⟨he,hκ⟩ | ⟨u,hu,hgo2⟩
 ·have:vs.toArray[i]? = none:=by
   rw [List.getElem?_toArray,List.getElem?_eq_none_iff,← hlv.length];exact List.getElem?_eq_none_iff.mp he
  refine wpAny_pyNext_tuple_end H.hand hit ht' this fun h' hx=>?_
  refine x0a2 (R'.spent (h':=h') (t:=s'.toks) hI xo fun b ob q e=>hx b ob q e :) fun R1 tk1=>?_
  exact hQ _ _ _ hκ hp' (htk'.trans tk1) R1
 ·refine x1a2 (hlv.get hu :) fun uv hx2 hi2=>?_
  refine wpAny_pyNext_tuple_item hit ht' (x:=uv) (by simpa using hx2) fun h' hit' hs'=>?_
  refine x1a3 hit' fun o1 ho1 hc1 hd1=>?_;clear hit'
  refine x0a2 (R'.reheld (h':=h') (t:=s'.toks) hI xo hs' ho1 :) fun R1 tk1=>?_
  refine y12 R1.cur fun hoff mm hn hm=>?_
  have hloc:cenv.locals = F'.L:=H.loc
  refine wpAny_assign_Name (wpAny_storeName_local hx (hloc▸hn) (fun h2 hn2 hs2=>?_) (by rw [H.kind];rfl))
  rw [hloc] at hn2 hs2
  have hu1:IsV ρ' h' u uv:=hi2.mono hp' (htk'.trans tk1)
  have R2:=R1.store (t:=s'.toks + 1) hn hm hn2 hs2 hu1
  have tk2:=TK.ns hn hs2
  rw [List.forIn_nil]
  refine wpAny_pure ?_
  rw [if_pos rfl]
  have hilt:i < l.length:=(List.getElem?_eq_some_iff.mp hu).1
  refine wpAny_Name (wpAny_loadName_local (v:=uv) H.kind hx (hloc▸hn2) (if_pos rfl) ?_) (oddName_ok hodd).1
  refine hi.x v' _ _ noE hgo2 A (hold F' I o1) cenv ρ' _ _ _ (HE hp') R2 ?_ noE_go
  intro ρ3 σ3 s3 w wv hw N3 hwv
  dsimp only at hw
  induction es:Mine.setItem (.loc n) u w σ3 using Option.casesOn with
  | none=>rw [es] at hw;exact ft' hw
  | some σ4 =>
   rw [es] at hw
   dsimp only at hw
   refine setItem_gen es N3.rel (getpre (hp'.trans N3.pre).adr hD) (hu1.mono N3.pre (tk2.trans N3.tk)) hwv fun K _ knd k kvs hk hd hsz hN=>?_
   refine wpAny_dictSet_pairs (hsz:=hsz) hk hd fun h6 hl6 hs6=>?_
   have N4:=hN h6 hl6 hs6
   exact ⟨l.length + 1 - (i + 1),Nat.sub_lt_sub_left (Nat.lt_succ_of_lt hilt) (Nat.lt_succ_self i),m4a6 (i + 1) σ4 ρ3 o1 rfl hw N4.rel ⟨hc1,hd1⟩ ((hp'.trans N3.pre).trans N4.pre) ((((htk'.trans tk1).trans tk2).trans N3.tk).trans N4.tk)⟩
end
end Mine
end
section
set_option maxHeartbeats 4000000
namespace Mine
section
variable {C:SC} {T:Tk} {F:Fm} {ρ ρ':Va} {σ σ':St} {s s':Shared} {h:Heap} {A:Around} {env:Env} {ks:Kd} {v:Ve} {Q E:Value→Shared→Prop} {cx:PySem.Expr→Mine.C} {r:Rc}
theorem Rel.letGo {L:Addr} {h':Heap} (R:Rel C F ρ σ s) (R':Rel C (compF F σ L) ρ' σ' s') (hs:Heap.SameBut L s'.heap h'):Rel C F ρ' { σ' with cur:=σ.cur } { s' with heap:=h' }∧TK s'.heap h':=by
 refine y12 R'.cur fun hoff mm hn hm=>?_
 have tk:TK s'.heap h':=TK.ns hn hs
 have hfL:F.L≠L:=(R'.fr _ (.head _)).1.2
 have hfr:∀ p∈F.fr,L≠p.1:=fun p hp=>Ne.symm (R'.fr p (.tail _ hp)).1.2
 refine ⟨(R.uncomp R').junk (s':={ s' with heap:=h' }) (b:=L) (fun b o q e=>(hs.2 b q).trans e) tk hoff.h0 (C.off_P hoff.h0) hoff.adr (Ne.symm hfL) hfr (fun p hp=>Ne.symm (R'.held p hp).2.1) (fun env2 he2 q=>?_) hoff.base rfl rfl,tk⟩
 rcases R.fsL env2 he2 L q with z | ⟨p,hp,z⟩
 ·exact hfL z.symm
 ·exact hfr p hp z
theorem listComp_ok (G:Gr C T) (hc:WCx C ks r cx) {elt f:PySem.Expr} {args:List PySem.Expr} {x:Str} {px fp pos:Pos} {sc:Scope} {inner:Mine.C} (hi:WC C (relK ks sc.names) r elt inner) (hz:okComp sc (key x) = true) (hs:noStar args = true) (hf:isRange T ks f = true) :
  WC C ks r (.ListComp elt [⟨.Name x px,.Call f args [] fp,[],0⟩] sc pos) (cComp cx inner (key x) sc args):=by
 refine x0a4 (okComp_ok hz :) fun hk hnc hloc hx=>?_
 refine mkC_ok (fun _ _=>rfl) fun v σ κ ε h A F env ρ s Q E H R GQ GE=>?_
 obtain ⟨d1,d2,cs,ec,h2⟩:=compVe_ok h
 refine x1a2 (closureFor_ok ec H.cells :) fun cl hcl hmap=>?_
 rw [eval_ListComp]
 refine wpAny_comprehension_free (use:=none) rfl (fun _=>rfl) hcl hk hloc ?_
 refine rangeCall (fin:=fun l _ σ1=>goL inner (key x) r ⟨cs,v.dep + 1⟩ κ l σ1) G hc hf hs h2 H R GE ?_
 intro ρ1 σ1 s1 k a t u w hg N1 hr hkk
 have R1:=N1.rel
 have e62:(2:Int) ^ 62 = 4611686018427387904:=by decide
 refine wpAny_pyIter_range hr (small_one (by lia) (by lia) (by lia) (by lia)) ?_
 rw [rangeSize_one]
 have hn:(if 0 < k then k - 0 else 0) = (natI k:Int):=by rw [natI_eq];refine ifL (fun _=>?_) fun _=>?_ <;> lia
 rw [hn]
 generalize hob:({ cls:=.type "range_iterator",data:=.fields #[rawInt 0,rawInt (natI k:Int),rawInt 1] }:Obj) = ob
 have R2:=R1.holdNew (ob:=ob) (by rw [← hob];rfl) s1.toks
 refine x0a4 (R1.lt :) fun l1 l2 l3 l4=>?_
 refine wpAny_newObj_type ?_
 have hm1:∀ x n,lk cs (key x) = some n→∃ c,cl.lookup x = some c∧ρ1.adr[n]? = some c:=fun x n e=>x1a2 (hmap x n e) fun c p q=>⟨c,p,getpre N1.pre.adr q⟩
 refine compNew (o:=.list []) (cs:=cs) (QQ:=fun L cenv s₄=>codeAny (model PW C.w) A (.compStart (.ListComp elt [⟨.Name x px,.Call f args [] fp,[],0⟩] sc pos) 0 (.ref s1.heap.objs.size) (.ref (s1.heap.push ob).objs.size) cenv) (compPost (model PW C.w) A E none Q (.ref (s1.heap.push ob).objs.size) L) s₄)
  R2 (H.mono N1.pre) rfl ⟨[],⟨0,Heap.get?_push_size _ rfl⟩,.nil⟩ hk hnc d1 d2 hm1 ?_
 intro L s3 N2 R3 H3
 have hD:(ρ1.adr++[(s1.heap.push ob).objs.size])[σ1.nxt]? = some (s1.heap.push ob).objs.size:=by rw [R1.nxt];simp
 have loop:codeAny (model PW C.w) A (.compLoop (.ListComp elt [⟨.Name x px,.Call f args [] fp,[],0⟩] sc pos) 0 (.ref s1.heap.objs.size) (.ref (s1.heap.push ob).objs.size) (compEnvC sc cl L env)) (compPost (model PW C.w) A E none Q (.ref (s1.heap.push ob).objs.size) L) s3:=by
  refine listLoop_ok (F':=compF F σ1 L) (o:=ob) G hi (fun p hp=>Nat.ne_of_gt (l4 p hp)) H3 (lookup_relabel_local hx) R3 hD hob.symm hg ?_
  intro ρ5 σ5 s5 hκ hp5 tk5 R5
  refine y12 R5.cur fun hoff mm hn5 hm5=>?_
  refine ⟨mm,hn5,fun h6 hs6=>?_⟩
  refine x0a2 (R1.letGo R5 hs6 :) fun R6 tk6=>?_
  have hNN:Next C F ρ s.heap ρ5 { σ5 with cur:=σ1.cur } { s5 with heap:=h6 }:=⟨(N1.pre.trans N2.pre).trans hp5,(((N1.tk.trans (TK.keeps (keep_push _ _))).trans N2.tk).trans tk5).trans tk6,R6⟩
  exact GQ _ _ _ _ _ hκ hNN (.loc (getpre hp5.adr hD))
 refine codeAny_compStart_list loop ?_
 refine x0a4 (R3.held (_,_) (.head _) :) fun _ _ _ hat=>?_
 exact wpAny_pyIter_rangeiter (by rw [← hob] at hat;exact hat) loop
end
end Mine
end
section
set_option backward.match.sparseCases true
set_option maxHeartbeats 4000000
namespace Mine
section
variable {C:SC} {T:Tk} {F:Fm} {ρ ρ':Va} {σ σ':St} {s s':Shared} {h:Heap} {A:Around} {env:Env} {ks:Kd} {v:Ve} {Q E:Value→Shared→Prop} {cx:PySem.Expr→Mine.C} {r:Rc}
theorem dictComp_ok (G:Gr C T) (hc:WCx C ks r cx) {val it:PySem.Expr} {x:Str} {pk px pos:Pos} {sc:Scope} {inner:Mine.C} (hi:WC C (relK ks sc.names) r val inner) (hz:okComp sc (key x) = true) (hset:notB (isSet it) = true) (hodd:notB (oddName (key x)) = true) :
  WC C ks r (.DictComp (.Name x pk) val [⟨.Name x px,it,[],0⟩] sc pos) (cDComp cx inner (key x) sc it):=by
 refine x0a4 (okComp_ok hz :) fun hk hnc hloc hx=>?_
 have hodd':oddName (key x) = false:=by induction q:oddName (key x) using Bool.casesOn with | false=>rfl | true=>rw [q] at hodd;exact ft' hodd
 refine mkC_ok (fun _ _=>rfl) fun v σ κ ε h A F env ρ s Q E H R GQ GE=>?_
 obtain ⟨d1,d2,cs,ec,h2⟩:=compVe_ok h
 refine x1a2 (closureFor_ok ec H.cells :) fun cl hcl hmap=>?_
 have hf:∀ x,foldedSetIterable it env x = pure x:=fun x=>by
  induction it using Expr.casesOn <;> first | rfl | exact ft' hset
 rw [arm_eval_DictComp]
 refine wpAny_comprehension_free (use:=none) rfl hf hcl hk hloc ?_
 refine (hc.ok it).x v σ _ ε h2 A F env ρ s _ E H R ?_ GE
 intro ρ1 σ1 s1 u uv hg N1 hu
 induction hu using IsV.casesOn with
 | @tup l a vs ht hl =>
  have hg':goD inner (key x) r ⟨cs,v.dep + 1⟩ κ l σ1 = true:=hg
  have R1:=N1.rel
  refine wpAny_pyIter_tuple ht ?_
  generalize hob:({ cls:=.type "tuple_iterator",data:=.fields #[.ref a,.int 0 0] }:Obj) = ob
  have R2:=R1.holdNew (ob:=ob) (by rw [← hob];rfl) s1.toks
  refine x0a4 (R1.lt :) fun l1 l2 l3 l4=>?_
  have kp:=keep_push s1.heap ob
  refine wpAny_newObj_type ?_
  have hm1:∀ x n,lk cs (key x) = some n→∃ c,cl.lookup x = some c∧ρ1.adr[n]? = some c:=fun x n e=>x1a2 (hmap x n e) fun c p q=>⟨c,p,getpre N1.pre.adr q⟩
  refine compNew (o:=.edict) (cs:=cs) (QQ:=fun L cenv s₄=>codeAny (model PW C.w) A (.compStart (.DictComp (.Name x pk) val [⟨.Name x px,it,[],0⟩] sc pos) 0 (.ref s1.heap.objs.size) (.ref (s1.heap.push ob).objs.size) cenv) (compPost (model PW C.w) A E none Q (.ref (s1.heap.push ob).objs.size) L) s₄)
   R2 (H.mono N1.pre) rfl ⟨R2.no_mods (R2.new_off (Heap.get?_size_none _)),Heap.DictOf.new _,Heap.DictOf.new _⟩ hk hnc d1 d2 hm1 ?_
  intro L s3 N2 R3 H3
  have hD:(ρ1.adr++[(s1.heap.push ob).objs.size])[σ1.nxt]? = some (s1.heap.push ob).objs.size:=by rw [R1.nxt];simp
  have tk3:TK s1.heap s3.heap:=(TK.keeps kp).trans N2.tk
  have loop:codeAny (model PW C.w) A (.compLoop (.DictComp (.Name x pk) val [⟨.Name x px,it,[],0⟩] sc pos) 0 (.ref s1.heap.objs.size) (.ref (s1.heap.push ob).objs.size) (compEnvC sc cl L env)) (compPost (model PW C.w) A E none Q (.ref (s1.heap.push ob).objs.size) L) s3:=by
   refine dictLoop_ok (F':=compF F σ1 L) (o:=ob) G hi (fun p hp=>Nat.ne_of_gt (l4 p hp)) H3 (lookup_relabel_local hx) hodd' R3 hD (tk3.tup _ _ ht) (hl.mono N2.pre tk3) (by rw [← hob];exact ⟨rfl,rfl⟩) hg' ?_
   intro ρ5 σ5 s5 hκ hp5 tk5 R5
   refine y12 R5.cur fun hoff mm hn5 hm5=>?_
   refine ⟨mm,hn5,fun h6 hs6=>?_⟩
   refine x0a2 (R1.letGo R5 hs6 :) fun R6 tk6=>?_
   have hNN:Next C F ρ s.heap ρ5 { σ5 with cur:=σ1.cur } { s5 with heap:=h6 }:=⟨(N1.pre.trans N2.pre).trans hp5,((N1.tk.trans tk3).trans tk5).trans tk6,R6⟩
   exact GQ _ _ _ _ _ hκ hNN (.loc (getpre hp5.adr hD))
  refine codeAny_compStart_dict loop ?_
  refine x0a4 (R3.held (_,_) (.head _) :) fun _ _ _ hat=>?_
  exact wpAny_pyIter_tupleiter (t:=a) (i:=0) ⟨ob,hat,by rw [← hob],by rw [← hob];rfl⟩ loop
 | _=>exact ft' hg
theorem listC_ok (G:Gr C T) (hc:WCx C ks r cx) {elt:PySem.Expr} {gs:List Comprehension} {sc:Scope} {pos:Pos} {inner:Mine.C} (hi:WC C (relK ks sc.names) r elt inner):WC C ks r (.ListComp elt gs sc pos) (cListC T cx ks inner sc gs):=by
 induction gs using List.casesOn with
 | nil=>exact noC_ok
 | cons g t =>
 obtain ⟨tg,it,ifs,a⟩:=g
 induction tg using Expr.casesOn with
 | Name x px =>
  induction it using Expr.casesOn with
  | Call f args kws p =>
   induction kws using List.casesOn with
   | cons _ _=>exact noC_ok
   | nil =>
   induction ifs using List.casesOn with
   | cons _ _=>exact noC_ok
   | nil =>
   induction t using List.casesOn with
   | cons _ _=>exact noC_ok
   | nil =>
   refine onC_ok fun h1=>onC_ok fun h2=>onC_ok fun h3=>onC_ok fun h4=>?_
   rw [beqI_eq] at h1
   obtain rfl:=of_decide_eq_true h1
   exact listComp_ok G hc hi h2 h3 h4
  | _=>exact noC_ok
 | _=>exact noC_ok
theorem dictC_ok (G:Gr C T) (hc:WCx C ks r cx) {kx val:PySem.Expr} {gs:List Comprehension} {sc:Scope} {pos:Pos} {inner:Mine.C} (hi:WC C (relK ks sc.names) r val inner):WC C ks r (.DictComp kx val gs sc pos) (cDictC cx kx inner sc gs):=by
 induction kx using Expr.casesOn with
 | Name kx pk =>
  induction gs using List.casesOn with
  | nil=>exact noC_ok
  | cons g t =>
  obtain ⟨tg,it,ifs,a⟩:=g
  induction tg using Expr.casesOn with
  | Name x px =>
   induction ifs using List.casesOn with
   | cons _ _=>exact noC_ok
   | nil =>
   induction t using List.casesOn with
   | cons _ _=>exact noC_ok
   | nil =>
   refine onC_ok fun h1=>onC_ok fun h2=>onC_ok fun h3=>onC_ok fun h4=>onC_ok fun h5=>?_
   rw [beqI_eq] at h1
   obtain rfl:=of_decide_eq_true h1
   obtain rfl:=key_inj (Nat.eq_of_beq_eq_true h3)
   exact dictComp_ok G hc hi h2 h4 h5
  | _=>exact noC_ok
 | _=>exact noC_ok
end
end Mine
end
section
set_option backward.match.sparseCases true
set_option maxHeartbeats 4000000
namespace Mine
open PySem.SeqAt
noncomputable def kP (P:V→St→Prop):KX:=fun u σ=>@decide (P u σ) (Classical.propDecidable _)
theorem kP_ok {P:V→St→Prop} {u:V} {σ:St} (h:kP P u σ = true):P u σ:=@of_decide_eq_true _ (Classical.propDecidable _) h
theorem kP_of {P:V→St→Prop} {u:V} {σ:St} (h:P u σ):kP P u σ = true:=@decide_eq_true _ (Classical.propDecidable _) h
noncomputable def cxN (T:Tk) (ks:Kd):PySem.Expr→Mine.C:=fun e=>match e with
 | .Name x _=>cNm T ks (key x)
 | _=>noC
section
variable {C:SC} {T:Tk} {F:Fm} {ρ:Va} {σ:St} {s:Shared} {A:Around} {env:Env} {ks:Kd} {v:Ve} {Q E:Value→Shared→Prop} {r:Rc}
theorem cxN_ok (G:Gr C T):WCx C ks r (cxN T ks) where
 ok:=fun e=>by
  induction e using Expr.casesOn with
  | Name x p=>exact name_ok G
  | _=>exact noC_ok
 star:=fun _ _=>rfl
 set:=fun _ _ _=>rfl
theorem local_go {x:Str} {u:V} {κ ε:KX} {p:Pos} (hk:lk ks (key x) = some .local) (ho:oddName (key x) = false) (hu:lk σ.cur (key x) = some u) (h:κ u σ = true):(cxN T ks (.Name x p)).x r v σ κ ε = true:=by
 show (cNm T ks (key x)).x r v σ κ ε = true
 unfold cNm
 rw [hk,show isGlob (some .local) = false from rfl,ho]
 show retO κ σ (lk σ.cur (key x)) = true
 rw [hu];exact h
theorem St.put_same {σ:St} {n:Nat} {o:O} (h:σ.at n = some o):σ.put n o = σ:=by
 have:∀ (m:List (Nat×O)),lk m n = some o→up m n o = m:=by
  intro m
  induction m with
  | nil=>intro h;exact nS' h
  | cons p r ih =>
   obtain ⟨y,u⟩:=p
   intro h
   rw [lk_cons] at h
   rw [up_cons]
   by_cases q:y = n
   ·rw [if_pos q] at h ⊢;(refine jS h fun j=>?_;clear h;subst j);rfl
   ·rw [if_neg q] at h ⊢;rw [ih h]
 unfold St.put
 rw [this _ h]
theorem Va.le.eq {a b:Va} (x:a.le b) (h1:a.adr.length = b.adr.length) (h2:a.sym.length = b.sym.length):b = a:=by
 obtain ⟨a1,a2⟩:=a
 obtain ⟨b1,b2⟩:=b
 obtain ⟨x1,x2⟩:=x
 have e1:=x1.eq_of_length h1
 have e2:=x2.eq_of_length h2
 simp only at e1 e2
 rw [e1,e2]
theorem Next.same {h:Heap} {ρ':Va} {s':Shared} (N:Next C F ρ h ρ' σ s') (R:Rel C F ρ σ s):ρ' = ρ:=N.pre.eq (R.nxt.symm.trans N.rel.nxt) (R.syn.symm.trans N.rel.syn)
theorem IsV.loc_inv {ρ:Va} {h:Heap} {n:Nat} {v:Value} (x:IsV ρ h (.loc n) v):∃ a,v = .ref a∧ρ.adr[n]? = some a:=by
 cases x with | loc e=>exact ⟨_,rfl,e⟩
noncomputable def nextBody (p1 p2 p3 p4 p5 p6 p7 p8 p9:Pos) (k:Nat):List PySem.Stmt:=[.Return (some (.IfExp (.Compare (.Name "row" p1) [.NotEq] [.List [] p2] p3) (.Call (.Attribute (.Name "row" p4) "pop" p5) [] [] p6) (.Constant (.int 0) k p7) p8)) p9]
structure NextOK (C:SC) (T:Tk):Prop where
 keep:keepIn C.K (.ref T.next) = true
 def_:∃ fn fo fd p1 p2 p3 p4 p5 p6 p7 p8 p9 k,FnOK C T fn T.next fo fd (nextBody p1 p2 p3 p4 p5 p6 p7 p8 p9 k)∧fn.params = [key "row"]∧fn.dflts = []∧noCells fd.scope.names = true∧fd.scope.names.lookup ("row":Str) = some .local∧p5.endLine = p6.line
noncomputable def nums (ns:List Nat):List V:=ns.map fun (k:Nat)=>.int k
theorem nums_of {h:Heap}:∀ {ws:List Value},(∀ v∈ws,∃ (n:Nat) (t:Tok),v = Value.int (n:Int) t∧n < 1024)→∃ ns:List Nat,(∀ k∈ns,k < 1024)∧IsVs ρ h (nums ns) ws:=by
 intro lq
 induction lq with
 | nil =>
  intro _
  exact ⟨[],fun _ h=>(nomatch h),.nil⟩
 | cons w ws ih =>
  intro H
  refine x2a2 (H w (.head _) :) fun n t q2q hn=>?_;subst q2q
  obtain ⟨ns,h1,h2⟩:=ih fun v hv=>H v (.tail _ hv)
  refine ⟨n :: ns,fun k hk=>?_,.cons .int h2⟩
  rcases List.mem_cons.mp hk with rfl | hk
  ·exact hn
  ·exact h1 k hk
theorem of_nums {h:Heap}:∀ {ns:List Nat} {ws:List Value},(∀ k∈ns,k < 1024)→IsVs ρ h (nums ns) ws→∀ v∈ws,∃ (n:Nat) (t:Tok),v = Value.int (n:Int) t∧n < 1024:=by
 intro ns
 induction ns with
 | nil=>intro ws _ a v hv;rw [show ws = [] from a.inv] at hv;exact (nomatch hv)
 | cons n ns ih =>
  intro ws H q
  refine x2a3 (q.inv :) fun v us e a r=>?_
  rw [e]
  intro u hu
  rcases List.mem_cons.mp hu with z | hu
  ·exact (a.inv).elim fun t k=>⟨n,t,z.trans k,H n (.head _)⟩
  ·exact ih (fun k hk=>H k (.tail _ hk)) r u hu
theorem up_up {α:Type} {x:Nat} {u v:α}:∀ {m:List (Nat×α)},up (up m x u) x v = up m x v:=by
 intro lq
 induction lq with
 | nil =>
  show up [(x,u)] x v = [(x,v)];rw [up_cons,if_pos rfl]
 | cons hq r ih =>
  obtain ⟨y,w⟩:=hq
  rw [up_cons,up_cons]
  by_cases q:y = x
  ·rw [if_pos q,if_pos q,up_cons,if_pos q]
  ·rw [if_neg q,if_neg q,up_cons,if_neg q,ih]
theorem St.put_put {σ:St} {n:Nat} {o o':O}:(σ.put n o).put n o' = σ.put n o':=by
 unfold St.put;rw [up_up]
theorem next_ok (G:Gr C T) (K:NextOK C T) {d n:Nat} {args:List Value} (e:σ.at n = some .rows) (hz:σ.fz≤n) (h1:1≤d) (hd:d≤50) (Ar:Arnd A F d) (R:Rel C F ρ σ s) (hu:IsVs ρ s.heap [.loc n] args)
  (hQ:∀ (m:Nat) t s',m < 1024→Next C F ρ s.heap ρ σ s'→Q (.int (m:Int) t) s'):codeAny (model PW C.w) A (.call (.ref T.next) ⟨args,[]⟩) (CallR Q E) s:=by
 refine x13a6 (K.def_ :) fun fn fo fd p1 p2 p3 p4 p5 p6 p7 p8 p9 kk KF hpar hdf hnc hrow hline=>?_
 refine x0a3 (okF_ok KF.scope :) fun hk hgen hco=>?_
 have hroom:A.depth < recursionLimit:=by
  have:=Ar.depth
  have e1:claimMargin = 300:=rfl
  have e2:recursionLimit = 1000:=rfl
  lia
 have hb:bindP fn.params fn.dflts [.loc n] = some [(key "row",.loc n)]:=by rw [hpar,hdf];rfl
 refine codeAny_call_function hroom (G.Xs R _ _ KF.at_) KF.data hco hgen KF.bodyE (R.code G KF.code) ?_
 refine enter_ok (κ:=fun _ σ1=>kP (fun _ σ2=>σ2 = σ) .none σ1) G KF hb hu R ?_ fun env cs σ1 ρ1 s1 hκ he R1 hp htk hm=>?_
 ·rw [KF.kinds,kindsOf_map,lay_none hnc];exact kP_of rfl
 have hσ:σ1 = σ:=kP_ok hκ
 subst hσ
 refine ⟨G.lims R1,codeAny_func ?_⟩
 have hqual:env.scope = fd.scope:=by rw [he]
 have H:EnvOK C (A.deeper env) (Mine.inner F σ1 env s.heap.objs.size) env (kindsOf fd.scope) ⟨cs,d + 1⟩ ρ1:={
  glob:=by rw [he];exact ⟨rfl,rfl⟩
  loc:=by rw [he];rfl
  kind:=by rw [hqual];exact hk
  ks:=by rw [hqual]
  cells:=hm
  frames:=by show A.frames.map _ = _;rw [Ar.frames];rfl
  hand:=Ar.hand
  depth:=by show A.depth + 1≤2 + claimMargin + 3 * (d + 1);have:=Ar.depth;lia
  units:=by show A.units + 3≤20 + 20 * (d + 1);have:=Ar.units;lia
  dep:=by show d + 1≤60;lia
  law:=fun q=>by have:d + 1 = 1:=q;lia }
 have hcur:lk (locals fn.kinds [(key "row",V.loc n)]) (key "row") = some (.loc n):=by
  rw [lk_locals,KF.kinds,lk_kindsOf,hrow]
  rfl
 have hks:lk (kindsOf fd.scope) (key "row") = some .local:=by rw [lk_kindsOf];exact hrow
 generalize hσc:({ σ1 with cur:=locals fn.kinds [(key "row",V.loc n)] }:St) = σc at R1
 replace hcur:lk σc.cur (key "row") = some (.loc n):=by rw [← hσc];exact hcur
 have hodd:oddName (key "row") = false:=by decide +kernel
 have W:WCx C (kindsOf fd.scope) (fun _ _ _ _ _ _=>false) (cxN T (kindsOf fd.scope)):=cxN_ok G
 have fin:∀ (m:Nat) t ρ' s',m < 1024→Next C (Mine.inner F σ1 env s.heap.objs.size) ρ1 s1.heap ρ' σc s'→Q (.int (m:Int) t) s':=fun m t ρ' s' hm N=>by
  subst hσc
  have N':=Next.leave R hp htk N
  obtain rfl:=N'.same R
  exact hQ m t s' hm N'
 have none_:∀ {ρ h},GoE C (Mine.inner F σ1 env s.heap.objs.size) ρ h (fun _ _=>false) (fun (_:Value) (_:Shared)=>False):=fun _ _ _ _ _ h=>(Bool.false_ne_true h).elim
 refine wpAny_mono (E:=fun _ _=>False) ?_ (fun _ _ x=>x) fun _ _ x=>x.elim
 refine wpAny_execs_cons ?_
 rw [arm_exec_Return]
 refine wpAny_bind (wpAny_standAt ?_)
 show wpAny _ _ (eval (.IfExp (.Compare (.Name "row" p1) [.NotEq] [.List [] p2] p3) (.Call (.Attribute (.Name "row" p4) "pop" p5) [] [] p6) (.Constant (.int 0) kk p7) p8) env >>= fun x=>pure (Flow.ret x)) _ _ _
 refine wpAny_bind ?_
 rw [arm_eval_IfExp]
 refine wpAny_bind ?_
 have hat:σc.at n = some .rows:=by rw [← hσc];exact e
 have hzc:σc.fz≤n:=by rw [← hσc];exact hz
 refine wpAny_isTrue_Compare1 ((W.ok (.Name "row" p1)).x ⟨cs,d + 1⟩ σc (kP fun u σ'=>u = .loc n∧σ' = σc) (fun _ _=>false) (local_go hks hodd hcur (kP_of ⟨rfl,rfl⟩)) _ _ env ρ1 s1 _ _ H R1 ?_ none_) rfl
 intro ρ2 σ2 s2 u uv hu2
 refine x0a2 (kP_ok hu2 :) fun q0q q1q=>?_;subst q0q;subst q1q
 intro N2 iv
 refine x1a2 (iv.loc_inv :) fun a q1q ha=>?_;subst q1q
 rw [arm_eval_List]
 refine wpAny_bind (wpAny_standAt (wpAny_bind (evs_ok W [] p2 ⟨cs,d + 1⟩ σ2 (fun us σ'=>kP (fun _ σ'=>us = []∧σ' = σ2) .none σ') (fun _ _=>false) (show kP (fun _ σ'=>([]:List V) = []∧σ' = σ2) .none σ2 = true from kP_of ⟨rfl,rfl⟩) _ _ env ρ2 s2 _ _ (H.mono N2.pre) N2.rel ?_ none_)))
 intro ρ3 σ3 s3 us vs hu3
 refine x0a2 (kP_ok hu3 :) fun q0q q1q=>?_;subst q0q;subst q1q
 intro N3 hvs
 cases hvs
 have ha3:=getpre N3.pre.adr ha
 have NN:=N2.trans N3
 refine x1a3 (NN.rel.thing ha3 hat :) fun ws hpl hlen hall=>?_
 have ⟨ns,hns,hvs⟩:=nums_of (ρ:=ρ3) (h:=s3.heap) hall
 refine wpAny_newList ?_ (Nat.zero_le _)
 have tk4:TK s3.heap (s3.heap.push { cls:=.type "list",data:=.seq #[] }):=TK.keeps (keep_push _ _)
 have R4:=NN.rel.grow (s':={ s3 with heap:=s3.heap.push { cls:=.type "list",data:=.seq #[] } }) (keep_push _ _) rfl rfl
 have N4:Next C (Mine.inner F σ1 env s.heap.objs.size) ρ1 s1.heap ρ3 σ3 { s3 with heap:=s3.heap.push { cls:=.type "list",data:=.seq #[] } }:=⟨NN.pre,NN.tk.trans tk4,R4⟩
 have hpl4:(s3.heap.push { cls:=.type "list",data:=.seq #[] }).PlainList a ws.toArray:=x1a1 (hpl) fun k e=>⟨k,keep_push _ _ _ _ e⟩
 have hnew:(s3.heap.push { cls:=.type "list",data:=.seq #[] }).IsList s3.heap.objs.size #[]:=Heap.PlainList.isList ⟨0,Heap.get?_push_size _ rfl⟩
 have hun:(A.deeper env).units < cLine:=by have:=H.units;have:=H.dep;unfold cLine;lia
 rcases List.eq_nil_or_concat ns with rfl | ⟨ms,m,rfl⟩
 ·-- an empty row
  cases hvs
  refine EqBoolInt.of_rcne (RcNeAt.lists (e:=fun _=>true) hpl4.isList hnew rfl hun fun j h1 _=>absurd h1 (Nat.not_lt_zero j)) ?_
  refine wpAny_truthy_bool ?_
  show wpAny _ _ (eval (.Constant (.int 0) kk p7) env) _ _ _
  refine wpAny_Constant_int (wpAny_pure ?_)
  exact fin 0 _ _ _ (by decide) (N4.trans (.tok R4 _))
 ·have hlen2:=hvs.length
  rw [List.concat_eq_append] at hvs hns
  rw [nums,List.map_append] at hvs
  refine EqBoolInt.of_rcne (RcNeAt.lists_lengths hpl4.isList hnew (by simp [← hlen2,nums]) hun) ?_
  refine wpAny_truthy_bool ?_
  show wpAny _ _ (eval (.Call (.Attribute (.Name "row" p4) "pop" p5) [] [] p6) env) _ _ _
  have R5:=R4.view (o':=.list (nums ms++[V.int m])) ha3 ⟨ws,hpl4,hvs.mono (Va.le.refl _) tk4⟩
  have N5:Next C (Mine.inner F σ1 env s.heap.objs.size) ρ1 s1.heap ρ3 (σ3.put n (.list (nums ms++[V.int m]))) { s3 with heap:=s3.heap.push { cls:=.type "list",data:=.seq #[] } }:=⟨N4.pre,N4.tk,R5⟩
  have hat5:(σ3.put n (.list (nums ms++[V.int m]))).at n = some (.list (nums ms++[V.int m])):=by rw [St.at_put,if_pos rfl]
  generalize hσ5:σ3.put n (.list (nums ms++[V.int m])) = σ5 at R5 N5 hat5
  have hcur5:lk σ5.cur (key "row") = some (.loc n):=by rw [← hσ5];exact hcur
  refine ownMeth W (fun _ _ _=>rfl) rfl hline (Nat.zero_le _) (κ:=kP fun u σ'=>u = .loc n∧σ' = σ5) (ε:=fun _ _=>false) (v:=⟨cs,d + 1⟩) (σ:=σ5) (local_go hks hodd hcur5 (kP_of ⟨rfl,rfl⟩)) (H.mono N5.pre) R5 none_ ?_
  intro ρ6 σ6 s6 u uv hu6
  refine x0a2 (kP_ok hu6 :) fun q0q q1q=>?_;subst q0q;subst q1q
  intro N6 iv6 pl
  refine x1a2 (iv6.loc_inv :) fun a' q1q ha'=>?_;subst q1q
  obtain rfl:a = a':=Option.some.inj ((getpre N6.pre.adr ha3).symm.trans ha')
  refine x1a2 (N6.rel.thing ha' hat5 :) fun ws6 hpl6 hvs6=>?_
  have nd:∃ o,s6.heap.get? a = some o∧o.dict = none:=x1a1 (hpl6) fun _ e=>⟨_,e,rfl⟩
  have N56:=N5.trans N6
  refine getMethod_builtin hpl6.isList.typeIs PySem.F.plainAttrs_list PySem.F.slot_list_pop PySem.F.type_list_pop (fun b e=>by cases e;exact nd) ⟨fun us σ'=>kP (fun _ σ''=>us = []∧σ'' = σ6) .none σ',show kP (fun _ σ'=>([]:List V) = []∧σ' = σ6) .none σ6 = true from kP_of ⟨rfl,rfl⟩,N6,?_⟩
  intro ρ7 σ7 s7 us ws7 hu7
  refine x0a2 (kP_ok hu7 :) fun q0q q1q=>?_;subst q0q;subst q1q
  intro N7 hws
  cases hws
  refine ⟨kept_builtin _,?_⟩
  have hz7:σ7.fz≤n:=by rw [← hσ5];exact hzc
  have hfit:fitsN (len (nums ms++[V.int m])) = true:=by
   unfold fitsN
   rw [len_eq,Nat.ble_eq]
   have:ws.length = (nums ms++[V.int m]).length:=hvs.length.symm
   lia
  refine pop_ok (xs:=nums ms++[V.int m]) (us:=[]) (κ:=kP fun u σ'=>u = .int m∧σ' = σ7.put n (.list (nums ms))) ?_ hat5 (getpre N7.pre.adr ha') N7.rel .nil ?_
  ·show (match revL (nums ms++[V.int m]) with | u :: rs=>ifB (fitsN (len (nums ms++[V.int m]))) (putK σ7 n (.list (revL rs)) (kP (fun u σ'=>u = .int m∧σ' = σ7.put n (.list (nums ms))) u)) false | []=>false) = true
   rw [revL_eq,List.reverse_append,hfit]
   show putK σ7 n (.list (revL (nums ms).reverse)) (kP (fun u σ'=>u = .int m∧σ' = σ7.put n (.list (nums ms))) (.int m)) = true
   rw [revL_eq,List.reverse_reverse]
   unfold putK St.putZ
   rw [show Nat.ble σ7.fz n = true from Nat.ble_eq.mpr hz7]
   exact kP_of ⟨rfl,rfl⟩
  ·intro ρ8 σ8 s8 u uv hu8
   refine x0a2 (kP_ok hu8 :) fun q0q q1q=>?_;subst q0q;subst q1q
   intro N8 iv8
   cases iv8 with
   | @int _ t =>
   have N9:=(N56.trans N7).trans N8
   have ha8:=getpre N8.pre.adr (getpre N7.pre.adr ha')
   refine x1a2 (N8.rel.thing ha8 (by rw [St.at_put,if_pos rfl]) :) fun ws8 hpl8 hvs8=>?_
   have hl8:ws8.length≤160:=by
    have e1:=hvs8.length
    have e2:=hvs.length
    rw [nums,List.length_map] at e1
    rw [List.length_append,List.length_map] at e2
    have:[m].length = 1:=rfl
    simp only [List.length_map,List.length_cons,List.length_nil] at e2
    lia
   have R9:=N8.rel.view (o':=.rows) ha8 ⟨ws8,hpl8,hl8,of_nums (fun k hk=>hns k (List.mem_append_left _ hk)) hvs8⟩
   have e9:(σ7.put n (.list (nums ms))).put n .rows = σ3:=by rw [← hσ5,St.put_put,St.put_put,St.put_same hat]
   rw [e9] at R9
   refine wpAny_pure ?_
   exact fin m t ρ8 s8 (hns m (by simp)) ⟨N9.pre,N9.tk,R9⟩
theorem callR_wp {A:Around} {s:Shared} {Q E:Value→Shared→Prop} {f:Value} {args:List Value} (h:codeAny (model PW C.w) A (.call f ⟨args,[]⟩) (CallR Q E) s):wpAny (model PW C.w) A (call f args) Q E s :=
 wpAny_call (codeAny_mono h fun r s' z=>by rcases r with e | (v | _ | _ | _) <;> exact z)
theorem rowsK_ok {u:V} {b:Bool} (h:rowsK u σ b = true):∃ n,u = .loc n∧σ.at n = some .rows∧σ.fz≤n∧b = true:=by
 induction u using V.casesOn with
 | loc n =>
  unfold rowsK at h
  dsimp only at h
  induction e:σ.at n using Option.casesOn with
  | none=>rw [e] at h;exact ft' h
  | some o =>
   rw [e] at h
   induction o using O.casesOn with
   | rows =>
    refine x0a2 (ifB_ok h :) fun h1 h2=>?_
    exact ⟨n,rfl,e,Nat.le_of_ble_eq_true h1,h2⟩
   | _=>exact ft' h
 | _=>exact ft' h
theorem forkN_ok {f:Nat→Bool}:∀ {n:Nat},forkN n f = true→∀ i,i < n→f i = true
 | n + 1,h,i,hi=>by
  have h':andB (f n) (forkN n f) = true:=h
  have h1:f n = true:=by induction q:f n using Bool.casesOn with | true=>rfl | false=>rw [q] at h';exact ft' h'
  rw [h1] at h'
  rcases Nat.lt_or_eq_of_le (Nat.le_of_lt_succ hi) with q | q
  ·exact forkN_ok h' i q
  ·exact q▸h1
theorem isNx_at {w:Option V} (h:isNx T w = true):w = some (.top T.next):=by
 induction w using Option.casesOn with
 | none=>exact ft' h
 | some w =>
 induction w using V.casesOn with
 | top a=>rw [Nat.eq_of_beq_eq_true h]
 | _=>exact ft' h
theorem isNext_ok {f:PySem.Expr} (h:isNext T ks f = true):∃ x p,f = .Name x p∧isGlob (lk ks (key x)) = true∧T.tx.glob.get (key x) = some (.top T.next):=by
 induction f using Expr.casesOn with
 | Name x p =>
  unfold isNext at h;dsimp only at h
  induction q:isGlob (lk ks (key x)) using Bool.casesOn with
  | false=>rw [q] at h;exact ft' h
  | true =>
   rw [q] at h
   exact ⟨x,p,rfl,q,isNx_at h⟩
 | _=>exact ft' h
theorem cNM_ok (G:Gr C T) (K:NextOK C T) {cx:PySem.Expr→Mine.C} (hc:WCx C ks r cx) {f x:PySem.Expr} {k:Int} {kk:Nat} {p p2 q:Pos} (hf:isNext T ks f = true) (hs:noStar [x] = true) (hk:posS k = true) :
  WC C ks r (.BinOp (.Call f [x] [] q) .Mod (.Constant (.int k) kk p2) p) (cNM cx x (natI k)):=by
 refine x2a3 (isNext_ok hf :) fun y py q2q hg1 hg2=>?_;subst q2q
 refine mkC_ok (fun _ _=>rfl) fun v σ κ ε h A F env ρ s Q E H R GQ GE=>?_
 refine x0a2 (ifB_ok h :) fun hd h=>?_
 refine x0a2 (ifB_ok hd :) fun hd1 hd2=>?_
 have hd1:=Nat.le_of_ble_eq_true hd1
 have hd2:=Nat.le_of_ble_eq_true hd2
 refine wpAny_BinOp ?_
 rw [eval_Call_plain (by intro _ _ _ q;cases q)]
 have hn:(cNm T ks (key y)).x r v σ (kP fun u σ'=>u = .top T.next∧σ' = σ) ε = true:=by
  unfold cNm
  rw [hg1,hg2]
  exact (kP_of ⟨rfl,rfl⟩:kP (fun u σ'=>u = .top T.next∧σ' = σ) (.top T.next) σ = true)
 refine wpAny_bind ((name_ok G (r:=r)).x v σ _ ε hn A F env ρ s _ E H R ?_ GE)
 intro ρ' σ' s' g gv hg
 refine x0a2 (kP_ok hg :) fun q0q q1q=>?_;subst q0q;subst q1q
 intro N hv
 cases hv
 refine callWith_of (P:=fun h=>Kept (model PW C.w) h (.ref T.next)) (by rw [noStar_any hs];rfl) (fun h x=>x) (args_ok (κ:=fun us σ'=>one us fun u=>rowsK u σ' (forkN (natI k) fun j=>κ (.int j) σ')) (ε:=ε) hc hs h (H.mono N.pre) N.rel ?_ (GE.next N))
 intro ρ'' σ'' s'' us vs hus N' hvs
 have N2:=N.trans N'
 induction hvs using IsVs.casesOn with
 | nil=>exact ft' hus
 | @cons u w us ws hw hr =>
 induction hr using IsVs.casesOn with
 | cons _ _=>exact ft' hus
 | nil =>
 refine x1a4 (rowsK_ok hus :) fun n q1q hat hz hfork=>?_;subst q1q
 refine ⟨keeps_K K.keep _ (G.Xs N2.rel),callR_wp (next_ok G K hat hz hd1 hd2 H.ar N2.rel (.cons hw .nil) ?_)⟩
 intro m t s3 hm N3
 refine wpAny_Constant_int ?_
 have N4:=N2.trans (N3.trans (.tok N3.rel (s3.toks + 1)))
 induction k using Int.casesOn with
 | negSucc j=>exact ft' hk
 | ofNat j =>
 cases j with
 | zero=>exact ft' hk
 | succ j =>
  have hlt:m % (j + 1) < j + 1:=Nat.mod_lt _ (Nat.succ_pos _)
  have hκ:=forkN_ok (n:=j + 1) hfork (m % (j + 1)) hlt
  refine binV_ok (o:=.Mod) (x:=.int (m:Int)) (y:=.int (Int.ofNat (j + 1))) (κ:=kP fun u σ'=>u = .int ((m % (j + 1):Nat):Int)∧σ' = σ'') ?_ N4.rel .int .int ?_
  ·show kP (fun u σ'=>u = .int ((m % (j + 1):Nat):Int)∧σ' = σ'') (.int (Int.fmod (m:Int) ((j + 1:Nat):Int))) σ'' = true
   exact kP_of ⟨by rw [← Int.ofNat_fmod],rfl⟩
  ·intro ρ5 σ5 s5 u uv hu5
   refine x0a2 (kP_ok hu5 :) fun q0q q1q=>?_;subst q0q;subst q1q
   intro N5 iv5
   exact GQ _ _ _ _ _ hκ (N4.trans N5) iv5
theorem binNx_ok (G:Gr C T) (K:NextOK C T) {cx:PySem.Expr→Mine.C} (hc:WCx C ks r cx) {o:Operator} {a b:PySem.Expr} {p:Pos}:WC C ks r (.BinOp a o b p) (cBinN T cx ks o a b):=by
 induction o using Operator.casesOn with
 | Mod =>
  induction a using Expr.casesOn with
  | Call f args kws q =>
   unfold cBinN;dsimp only
   induction hf:isNext T ks f using Bool.casesOn with
   | false=>exact binop_ok hc
   | true =>
   induction args using List.casesOn with
   | nil=>exact noC_ok
   | cons x t =>
   induction t using List.casesOn with
   | cons _ _=>exact noC_ok
   | nil =>
   induction kws using List.casesOn with
   | cons _ _=>exact noC_ok
   | nil =>
   refine onC_ok fun hs=>?_
   induction b using Expr.casesOn with
   | Constant c kk pc =>
    cases c with
    | int k =>
     unfold cNMk;dsimp only
     induction hk:posS k using Bool.casesOn with
     | true=>exact cNM_ok G K hc hf hs hk
     | false=>exact noC_ok
    | _=>exact noC_ok
   | _=>exact noC_ok
  | _=>exact binop_ok hc
 | _=>exact binop_ok hc
theorem IsBts.sbs {S:List Value} {i m:Nat} {t:Tok} (h:S[i]? = some (.int (m:Int) t)):∀ (n j:Nat),IsBts S (sbs i n j) (m / 2 ^ j % 2 ^ n)
 | 0,j=>by
  have:m / 2 ^ j % 2 ^ 0 = 0:=by rw [Nat.pow_zero,Nat.mod_one]
  rw [this];exact .nil
 | n + 1,j=>by
  have:=IsBts.cons (IsBt.s (j:=j) h) (IsBts.sbs h n (j + 1))
  have e:m / 2 ^ j % 2 + 2 * (m / 2 ^ (j + 1) % 2 ^ n) = m / 2 ^ j % 2 ^ (n + 1):=by
   rw [Nat.pow_succ 2 j,← Nat.div_div_eq_div_mul,Nat.pow_succ 2 n,Nat.mul_comm (2 ^ n) 2,Nat.mod_mul]
  rw [e] at this
  exact this
theorem nextK_ok (G:Gr C T) (K:NextOK C T) {d:Nat} {us:List V} {args:List Value} {κ:KX} (h:one us (nextK σ κ) = true) (h1:1≤d) (hd:d≤50) (Ar:Arnd A F d) (R:Rel C F ρ σ s) (hu:IsVs ρ s.heap us args)
  (GQ:GoQ C F ρ s.heap κ Q):codeAny (model PW C.w) A (.call (.ref T.next) ⟨args,[]⟩) (CallR Q E) s:=by
 induction hu using IsVs.casesOn with
 | nil=>exact ft' h
 | @cons u w us ws hw hr =>
 induction hr using IsVs.casesOn with
 | cons _ _=>exact ft' h
 | nil =>
 refine x1a4 (rowsK_ok h :) fun n q1q hat hz hκ=>?_;subst q1q
 refine next_ok G K hat hz h1 hd Ar R (.cons hw .nil) fun m t s' hm N=>?_
 have R':=N.rel.sym (.int (m:Int) t)
 have hs:(ρ.sym++[Value.int (m:Int) t])[σ.syn]? = some (.int (m:Int) t):=by rw [R.syn];simp
 have hb:=IsBts.sbs hs 10 0
 have e:m / 2 ^ 0 % 2 ^ 10 = m:=by rw [Nat.pow_zero,Nat.div_one];exact Nat.mod_eq_of_lt hm
 rw [e] at hb
 exact GQ _ _ _ _ _ hκ ⟨le_sym _ _,N.tk,R'⟩ (.bv hb)
end
end Mine
end
section
set_option maxHeartbeats 4000000
namespace Mine
section
variable {C:SC} {T:Tk} {F:Fm} {ρ ρ':Va} {σ σ':St} {s s':Shared} {h:Heap} {A:Around} {env:Env} {ks:Kd} {v:Ve} {Q E:Value→Shared→Prop} {cx:PySem.Expr→Mine.C} {r:Rc}
theorem stepX_ok (G:Gr C T) (N:NextOK C T) (hr:RcOK C r) (hS:StoreOK C T r) {ih:Kd→PySem.Expr→Mine.C} (hi:∀ ks,WCx C ks r (ih ks)) (ks:Kd) (e:PySem.Expr):WC C ks r e (stepX T ih ks e):=by
 induction e using Expr.casesOn with
 | Name x p=>exact name_ok G
 | Constant c k p=>exact const_ok
 | Tuple l k p=>exact tuple_ok (hi ks)
 | List l p=>exact list_ok (hi ks)
 | Dict kys vs p =>
  induction vs using List.casesOn with
  | nil=>exact edict_ok rfl
  | cons _ _=>exact noC_ok
 | Attribute o a p=>exact attr_ok G (hi ks)
 | Subscript o i p=>exact sub_ok (hi ks)
 | Call f args kws p=>exact call_ok G (hi ks) hr hS
 | BinOp a o b p=>exact binNx_ok G N (hi ks)
 | UnaryOp o a p=>exact un_ok (hi ks)
 | Compare a os bs p=>exact cmp_ok (hi ks)
 | BoolOp op l p=>exact bool_ok (hi ks)
 | IfExp t a b p=>exact if_ok (hi ks)
 | Lambda args body sc p=>exact lam_ok G
 | ListComp elt gs sc p=>exact listC_ok G (hi ks) ((hi _).ok elt)
 | DictComp kx val gs sc p=>exact dictC_ok G (hi ks) ((hi _).ok val)
 | _=>exact noC_ok
theorem compX_ok (G:Gr C T) (N:NextOK C T) (hr:RcOK C r) (hS:StoreOK C T r):∀ n ks,WCx C ks r (compX T n ks)
 | 0,_=>⟨fun _=>noC_ok,fun _ _=>rfl,fun _ _ _=>rfl⟩
 | n + 1,ks=>⟨fun e=>stepX_ok G N hr hS (fun ks=>compX_ok G N hr hS n ks) ks e,fun _ _=>rfl,fun _ _ _=>rfl⟩
theorem stepS_ok (G:Gr C T) (X:ExcOK C.K T.kExc) {cs:PySem.Stmt→CS} (hc:WCx C ks r cx) (hs:WCs C ks r cs) (st:PySem.Stmt):WSt C ks r st (stepS T cx ks cs st):=by
 cases st with
 | Assign ts e p=>exact asgs_ok G hc
 | AugAssign t o e p=>exact aug_ok hc
 | Expr e p=>exact exp_ok hc
 | Return e p=>exact ret_ok hc
 | If t a b p=>exact ifS_ok hc hs
 | For t e body el p=>exact for_ok G hc hs
 | While t body el p =>
  induction el using List.casesOn with
  | nil=>exact while_ok hc hs
  | cons _ _=>exact noS_ok
 | Raise e c p=>exact raise_ok G X hc
 | Continue p=>exact cont_ok
 | Pass p=>exact pass_ok
 | _=>exact noS_ok
theorem compS_ok (G:Gr C T) (N:NextOK C T) (X:ExcOK C.K T.kExc) (hr:RcOK C r) (hS:StoreOK C T r) (ks:Kd):∀ n,WCs C ks r (compS T ks n)
 | 0=>⟨fun _=>noS_ok⟩
 | n + 1=>⟨fun st=>stepS_ok G X (compX_ok G N hr hS 40 ks) (compS_ok G N X hr hS ks n) st⟩
end
structure Gd (C:SC) (T:Tk) where
 gr:Gr C T
 str:∀ c cl,T.tx.cls.get c = some cl→cl.exc = false→ClsStr C.K c
 exc:ExcOK C.K T.kExc
 kept:KeptOK C T gr
 keptK:keepIn C.K (.ref T.kept) = true
 next:NextOK C T
 fn:∀ a fn,T.tx.fns.get a = some fn→keepIn C.K (.ref a) = true∧∃ fo fd body,FnOK C T fn a fo fd body
 cls:∀ a cl,T.tx.cls.get a = some cl→keepIn C.K (.ref a) = true∧(findIn C.K (.ref a) "__init__" = some (some (.ref cl.init))∧typeIn C.K (.ref cl.init) = some (.type "function"))∧(cl.exc = false→makesIn C.K a = true)∧(cl.exc = true→makesExcIn C.K a = true)
section
variable {C:SC} {T:Tk} {r:Rc}
theorem stepC_ok (D:Gd C T) (hr:RcOK C r) (hS:StoreOK C T r):RcOK C (stepC T r (compX T 40)):=by
 intro d f us σ κ ε h A F ρ s Q E fv args Ar R hf hu GQ GE
 have G:=D.gr
 refine x0a2 (ifB_ok h :) fun h1 h2=>?_
 refine x0a2 (ifB_ok h1 :) fun h3 h4=>?_
 have hd1:=Nat.le_of_ble_eq_true h3
 have hd2:=Nat.le_of_ble_eq_true h4
 have fin:∀ {a:Nat},keepIn C.K (.ref a) = true→codeAny (model PW C.w) A (.call (.ref a) ⟨args,[]⟩) (CallR Q E) s →
   Kept (model PW C.w) s.heap (.ref a)∧wpAny (model PW C.w) A (call (.ref a) args) Q E s∧((∃ b,V.top a = .top b)→codeAny (model PW C.w) A (.call (.ref a) ⟨args,[]⟩) (CallR Q E) s):=fun hk hc =>
  ⟨keeps_K hk _ (G.Xs R),callR_wp hc,fun _=>hc⟩
 induction hf using IsV.casesOn with
 | @top a =>
  have h5:ifB (Nat.beq a T.kept) (one us (keptK T r d σ κ)) (ifB (Nat.beq a T.next) (one us (nextK σ κ)) (callTop T r a d us σ κ ε)) = true:=h2
  induction e:Nat.beq a T.kept using Bool.casesOn with
  | true =>
   rw [e] at h5
   obtain rfl:=Nat.eq_of_beq_eq_true e
   exact fin D.keptK (kept_ok (ε:=ε) D.kept leave_ok hr h5 hd1 hd2 Ar R hu GQ)
  | false =>
   rw [e] at h5
   replace h5:ifB (Nat.beq a T.next) (one us (nextK σ κ)) (callTop T r a d us σ κ ε) = true:=h5
   induction en:Nat.beq a T.next using Bool.casesOn with
   | true =>
   rw [en] at h5
   obtain rfl:=Nat.eq_of_beq_eq_true en
   exact fin D.next.keep (nextK_ok G D.next h5 hd1 hd2 Ar R hu GQ)
   | false =>
   rw [en] at h5
   have h6:(match T.tx.fns.get a with
    | some fn=>callFn r fn d us σ κ ε
    | none=>(match T.tx.cls.get a with
     | some cl=>(match cl.exc with | true=>mkExc r a cl d us σ κ ε | false=>mkInst r a cl d us σ κ ε)
     | none=>false)) = true:=h5
   induction ef:T.tx.fns.get a using Option.casesOn with
   | some fn =>
    rw [ef] at h6
    obtain ⟨hk,fo,fd,body,K⟩:=D.fn a fn ef
    refine fin hk (callFn_ok G leave_ok K ?_ h6 hd1 hd2 Ar R hu GQ GE)
    rw [K.bodyS]
    exact css_ok (compS_ok G D.next D.exc hr hS _ 40) body
   | none =>
    rw [ef] at h6
    dsimp only at h6
    induction ec:T.tx.cls.get a using Option.casesOn with
    | none=>rw [ec] at h6;exact ft' h6
    | some cl =>
     rw [ec] at h6
     dsimp only at h6
     refine x0a4 (D.cls a cl ec :) fun hk hinit hp hx=>?_
     induction ex:cl.exc using Bool.casesOn with
     | true=>rw [ex] at h6;exact fin hk (mkExc_ok G hr (hx ex) hinit h6 hd2 Ar R hu GQ GE)
     | false=>rw [ex] at h6;exact fin hk (mkInst_ok G hr ⟨hp ex,hinit⟩ h6 hd2 Ar R hu GQ GE)
 | @loc n a ha =>
  have h5:callO r (compX T 40) (σ.at n) d us σ κ ε = true:=h2
  refine x0a2 (callO_ok G leave_ok (fun ks e=>(compX_ok G D.next hr hS 40 ks).ok e) ha h5 hd1 hd2 Ar R hu GQ GE :) fun k hc=>?_
  exact ⟨k,callR_wp hc,fun ⟨_,q⟩=>by cases q⟩
 | bi=>exact ⟨kept_builtin _,bi_ok D.str G Ar.hand h2 R hu GQ,fun ⟨_,q⟩=>by cases q⟩
 | ty=>exact ⟨kept_type _,ty_ok h2 R hu GQ,fun ⟨_,q⟩=>by cases q⟩
 | _=>exact ft' h2
end
end Mine
end
section
set_option maxHeartbeats 4000000
namespace Mine
open Classical in
noncomputable def onCur (σ:St) (c:List (Nat×V)) (κ:KX):KX:=fun u σ'=>andB (decide (σ'.cur = c)) (κ u { σ' with cur:=σ.cur })
noncomputable def RcAny (r:Rc):Prop:=∀ d f vs σ κ ε c,r d f vs σ κ ε = true→r d f vs { σ with cur:=c } (onCur σ c κ) (onCur σ c ε) = true
section
variable {T:Tk} {r:Rc} {σ:St} {c:List (Nat×V)} {κ ε:KX}
open Classical in
set_option tactic.hygienic true in
theorem onCur_at {u:V} {σ':St} (h:onCur σ c κ u σ' = true):σ'.cur = c∧κ u { σ' with cur:=σ.cur } = true:=by
 unfold onCur andB at h
 (revert h;refine mB (fun _ h=>?_) fun _ h=>?_)
 ·rename_i q;exact ⟨of_decide_eq_true q,h⟩
 ·exact ft' h
open Classical in
theorem onCur_put {u:V} {σ':St} (h1:σ'.cur = c) (h:κ u { σ' with cur:=σ.cur } = true):onCur σ c κ u σ' = true:=by
 unfold onCur andB
 rw [decide_eq_true h1];exact h
open Classical in
theorem onCur_eq {u:V} {σ':St} (h1:σ'.cur = c):onCur σ c κ u σ' = κ u { σ' with cur:=σ.cur }:=by
 unfold onCur andB
 rw [decide_eq_true h1]
theorem back_onCur:back { σ with cur:=c } (onCur σ c κ) = back σ κ:=by
 funext u σ'
 exact onCur_eq (σ:=σ) (c:=c) (κ:=κ) (u:=u) (σ':={ σ' with cur:=c }) rfl
theorem backF_onCur:backF { σ with cur:=c } (onCur σ c κ) = backF σ κ:=by
 funext fl σ'
 exact onCur_eq (σ:=σ) (c:=c) (κ:=κ) (u:=retF fl) (σ':={ σ' with cur:=c }) rfl
theorem lay_cur {b:List (Nat×V)}:∀ (ks:Kd) (cs:List (Nat×Nat)) (σ:St) (κ:List (Nat×Nat)→St→Bool),lay ks b cs { σ with cur:=c } κ = lay ks b cs σ (fun cs σ1=>κ cs { σ1 with cur:=c }):=by
 intro lq
 induction lq with
 | nil =>
  intro _ _ _
  exact rfl
 | cons hq ks ih =>
  obtain ⟨x,k⟩:=hq
  intro cs σ κ
  induction k using NameKind.casesOn with
  | cell=>exact ih ((x,σ.nxt) :: cs) (σ.new (.cell (lk b x))) κ
  | _=>exact ih cs σ κ
theorem callFn_cur {fn:Fn} {d:Nat} {vs:List V} (h:callFn r fn d vs σ κ ε = true):callFn r fn d vs { σ with cur:=c } (onCur σ c κ) (onCur σ c ε) = true:=by
 unfold callFn at h ⊢
 split at h
 ·rw [lay_cur,backF_onCur,back_onCur];exact h
 ·exact ft' h
theorem noneK_cur {n:Nat} {σ2:St} (h2:σ2.cur = σ.cur):onCur σ2 c (noneK (κ (.loc n))) = noneK (onCur σ c κ (.loc n)):=by
 funext u σ'
 induction u using V.casesOn with
 | none=>show onCur σ2 c (noneK (κ (.loc n))) .none σ' = onCur σ c κ (.loc n) σ';unfold onCur;rw [h2];rfl
 | _=>show onCur σ2 c (noneK (κ (.loc n))) _ σ' = false;unfold onCur andB;split <;> rfl
theorem onCur_same {σ2:St} (h2:σ2.cur = σ.cur):onCur σ2 c κ = onCur σ c κ:=by funext u σ';unfold onCur;rw [h2]
theorem lenV_cur {u:V}:lenV u { σ with cur:=c } = lenV u σ:=by induction u using V.casesOn <;> rfl
theorem listOf_cur {u:V}:listOf u { σ with cur:=c } = listOf u σ:=by induction u using V.casesOn <;> rfl
theorem isStr_cur {u:V}:isStr T u { σ with cur:=c } = isStr T u σ:=by induction u using V.casesOn <;> rfl
theorem here_cur {u:V} (h:κ u σ = true):onCur σ c κ u { σ with cur:=c } = true:=onCur_put rfl h
theorem newL_cur {l:List V} (h:newL κ σ l = true):newL (onCur σ c κ) { σ with cur:=c } l = true:=by
 refine x0a2 (ifB_ok h :) fun h1 h2=>?_
 unfold newL
 rw [h1]
 exact onCur_put rfl h2
theorem newT_cur {l:List V} (h:newT κ σ l = true):newT (onCur σ c κ) { σ with cur:=c } l = true:=by
 refine x0a2 (ifB_ok h :) fun h1 h2=>?_
 unfold newT
 rw [h1]
 exact onCur_put rfl h2
theorem one_cur {vs:List V} {f g:V→Bool} (hfg:∀ u,f u = true→g u = true) (h:one vs f = true):one vs g = true:=by
 induction vs using List.casesOn with
 | nil=>exact ft' h
 | cons u r=>induction r using List.casesOn with
  | nil=>exact hfg u h
  | cons _ _=>exact ft' h
theorem two_cur {vs:List V} {f g:V→V→Bool} (hfg:∀ u w,f u w = true→g u w = true) (h:two vs f = true):two vs g = true:=by
 induction vs using List.casesOn with
 | nil=>exact ft' h
 | cons u r=>induction r using List.casesOn with
  | nil=>exact ft' h
  | cons w r=>induction r using List.casesOn with
   | nil=>exact hfg u w h
   | cons _ _=>exact ft' h
theorem maxV_cur {vs:List V} {f:Int→Int→Int} {g k:V→Bool} (hfg:∀ u,g u = true→k u = true) (h:maxV vs f g = true):maxV vs f k = true:=by
 induction vs using List.casesOn with
 | nil=>exact ft' h
 | cons x t =>
 induction x using V.casesOn with
 | int a =>
  induction t using List.casesOn with
  | nil=>exact ft' h
  | cons y t =>
  induction y using V.casesOn with
  | int b =>
   induction t using List.casesOn with
   | nil=>exact hfg _ h
   | cons _ _=>exact ft' h
  | _=>exact ft' h
 | _=>exact ft' h
theorem biV_cur {b:BI} {vs:List V} (h:biV T b vs σ κ = true):biV T b vs { σ with cur:=c } (onCur σ c κ) = true:=by
 cases b with
 | len =>
  refine one_cur (fun u hu=>?_) h
  rw [lenV_cur]
  induction e:lenV u σ using Option.casesOn with
  | none=>rw [e] at hu;exact ft' hu
  | some n =>
   rw [e] at hu
   refine x0a2 (ifB_ok hu :) fun h1 h2=>?_
   show ifB (fitsN n) _ false = true
   rw [h1]
   exact here_cur h2
 | max=>exact maxV_cur (vs:=vs) (g:=fun u=>κ u σ) (k:=fun u=>onCur σ c κ u { σ with cur:=c }) (fun u hu=>here_cur hu) h
 | min=>exact maxV_cur (vs:=vs) (g:=fun u=>κ u σ) (k:=fun u=>onCur σ c κ u { σ with cur:=c }) (fun u hu=>here_cur hu) h
 | isinstance =>
  refine two_cur (fun u t hu=>?_) h
  induction t using V.casesOn with
  | ty t =>
   induction t using TY.casesOn with
   | str =>
    have hu':(match isStr T u σ with | some b=>κ (.bool b) σ | none=>false) = true:=hu
    show (match isStr T u { σ with cur:=c } with | some b=>onCur σ c κ (.bool b) { σ with cur:=c } | none=>false) = true
    rw [isStr_cur]
    induction e:isStr T u σ using Option.casesOn with
    | none=>rw [e] at hu';exact ft' hu'
    | some b=>rw [e] at hu';exact here_cur hu'
   | _=>exact ft' hu
  | _=>exact ft' hu
 | sorted =>
  refine one_cur (fun u hu=>?_) h
  induction u using V.casesOn with
  | loc n =>
   have hu':(match σ.at n with | some o=>srtO o (newL κ σ) | none=>false) = true:=hu
   show (match σ.at n with | some o=>srtO o (newL (onCur σ c κ) { σ with cur:=c }) | none=>false) = true
   induction e:σ.at n using Option.casesOn with
   | none=>rw [e] at hu';exact ft' hu'
   | some o =>
    rw [e] at hu'
    dsimp only at hu' ⊢
    induction o using O.casesOn with
    | edict=>exact newL_cur hu'
    | idict m =>
     induction m using List.casesOn with
     | nil=>exact ft' hu'
     | cons p m =>
     induction m using List.casesOn with
     | nil=>exact newL_cur hu'
     | cons _ _=>exact ft' hu'
    | _=>exact ft' hu'
  | _=>exact ft' hu
 | abs=>exact ft' h
theorem tyV_cur {t:TY} {vs:List V} (h:tyV t vs σ κ = true):tyV t vs { σ with cur:=c } (onCur σ c κ) = true:=by
 induction t using TY.casesOn with
 | tuple =>
  refine one_cur (fun u hu=>?_) h
  rw [listOf_cur]
  induction e:listOf u σ using Option.casesOn with
  | none=>rw [e] at hu;exact ft' hu
  | some l=>rw [e] at hu;exact newT_cur hu
 | _=>exact ft' h
theorem rcAny_step {cx:Kd→PySem.Expr→Mine.C} (hr:RcAny r):RcAny (stepC T r cx):=by
 intro d f vs σ κ ε c h
 refine x0a2 (ifB_ok h :) fun h1 h2=>?_
 unfold stepC
 rw [h1]
 induction f using V.casesOn with
 | top a =>
  have h5:ifB (Nat.beq a T.kept) (one vs (keptK T r d σ κ)) (ifB (Nat.beq a T.next) (one vs (nextK σ κ)) (callTop T r a d vs σ κ ε)) = true:=h2
  show ifB (Nat.beq a T.kept) (one vs (keptK T r d { σ with cur:=c } (onCur σ c κ))) (ifB (Nat.beq a T.next) (one vs (nextK { σ with cur:=c } (onCur σ c κ))) (callTop T r a d vs { σ with cur:=c } (onCur σ c κ) (onCur σ c ε))) = true
  induction e:Nat.beq a T.kept using Bool.casesOn with
  | true =>
   rw [e] at h5
   refine one_cur (fun u hu=>?_) h5
   show r (d + 1) u [] { σ with cur:=[] } (back { σ with cur:=c } (onCur σ c κ)) (kindK T (back { σ with cur:=c } (onCur σ c κ))) = true
   rw [back_onCur];exact hu
  | false =>
   rw [e] at h5
   replace h5:ifB (Nat.beq a T.next) (one vs (nextK σ κ)) (callTop T r a d vs σ κ ε) = true:=h5
   show ifB (Nat.beq a T.next) (one vs (nextK { σ with cur:=c } (onCur σ c κ))) (callTop T r a d vs { σ with cur:=c } (onCur σ c κ) (onCur σ c ε)) = true
   induction en:Nat.beq a T.next using Bool.casesOn with
   | true =>
    rw [en] at h5
    refine one_cur (fun u hu=>?_) h5
    refine x1a4 (rowsK_ok hu :) fun n q1q hat hz hκ=>?_;subst q1q
    show (match σ.at n with | some o=>(match o with | .rows=>ifB (Nat.ble σ.fz n) (onCur σ c κ (.bv (sbs σ.syn 10 0)) { σ with cur:=c,syn:=σ.syn + 1 }) false | _=>false) | none=>false) = true
    rw [hat]
    dsimp only
    rw [Nat.ble_eq.mpr hz]
    exact onCur_put rfl hκ
   | false =>
   rw [en] at h5
   show callTop T r a d vs { σ with cur:=c } (onCur σ c κ) (onCur σ c ε) = true
   have h6:(match T.tx.fns.get a with
    | some fn=>callFn r fn d vs σ κ ε
    | none=>(match T.tx.cls.get a with
     | some cl=>(match cl.exc with | true=>mkExc r a cl d vs σ κ ε | false=>mkInst r a cl d vs σ κ ε)
     | none=>false)) = true:=h5
   show (match T.tx.fns.get a with
    | some fn=>callFn r fn d vs { σ with cur:=c } (onCur σ c κ) (onCur σ c ε)
    | none=>(match T.tx.cls.get a with
     | some cl=>(match cl.exc with | true=>mkExc r a cl d vs { σ with cur:=c } (onCur σ c κ) (onCur σ c ε) | false=>mkInst r a cl d vs { σ with cur:=c } (onCur σ c κ) (onCur σ c ε))
     | none=>false)) = true
   induction ef:T.tx.fns.get a using Option.casesOn with
   | some fn=>rw [ef] at h6;exact callFn_cur h6
   | none =>
    rw [ef] at h6
    dsimp only at h6 ⊢
    induction ec:T.tx.cls.get a using Option.casesOn with
    | none=>rw [ec] at h6;exact ft' h6
    | some cl =>
     rw [ec] at h6
     dsimp only at h6 ⊢
     induction ex:cl.exc using Bool.casesOn with
     | true =>
      rw [ex] at h6
      refine x0a2 (ifB_ok (b:=fitsN (len vs)) h6 :) fun g1 g2=>?_
      have:=hr _ _ _ _ _ _ c g2
      rw [noneK_cur (σ:=σ) (σ2:=σ.new (.raw a)) rfl,onCur_same (σ:=σ) (σ2:=σ.new (.raw a)) rfl] at this
      show ifB (fitsN (len vs)) _ false = true
      rw [g1]
      exact this
     | false =>
      rw [ex] at h6
      have h7:r (d + 1) (.top cl.init) (.loc (σ.nxt + 1) :: vs) ((σ.new (.attrs [])).new (.inst a σ.nxt)) (noneK (κ (.loc (σ.nxt + 1)))) ε = true:=h6
      have:=hr _ _ _ _ _ _ c h7
      rw [noneK_cur (σ:=σ) (σ2:=(σ.new (.attrs [])).new (.inst a σ.nxt)) rfl,onCur_same (σ:=σ) (σ2:=(σ.new (.attrs [])).new (.inst a σ.nxt)) rfl] at this
      exact this
 | loc n =>
  have h5:callO r cx (σ.at n) d vs σ κ ε = true:=h2
  show callO r cx (σ.at n) d vs { σ with cur:=c } (onCur σ c κ) (onCur σ c ε) = true
  induction eo:σ.at n using Option.casesOn with
  | none=>rw [eo] at h5;exact ft' h5
  | some o =>
   rw [eo] at h5
   induction o using O.casesOn with
   | clos cs sc e =>
    induction vs using List.casesOn with
    | cons _ _=>exact ft' h5
    | nil =>
     show (cx (kindsOf sc) e).x r ⟨cs,d + 1⟩ { σ with cur:=[] } (back { σ with cur:=c } (onCur σ c κ)) (back { σ with cur:=c } (onCur σ c ε)) = true
     rw [back_onCur,back_onCur]
     exact h5
   | _=>exact ft' h5
 | bi=>exact biV_cur h2
 | ty=>exact tyV_cur h2
 | _=>exact ft' h2
theorem rcAny_run:∀ n,RcAny (runC T n)
 | 0=>fun _ _ _ _ _ _ _ h=>(Bool.false_ne_true h).elim
 | n + 1=>rcAny_step (rcAny_run n)
end
end Mine
end
section
set_option maxHeartbeats 4000000
namespace Mine
theorem IsV.down {ρ ρ':Va} {h0 h:Heap} (hp:ρ.le ρ') {x:V} {v0 v:Value} (H0:IsV ρ h0 x v0):IsV ρ' h x v→IsV ρ h x v:=by
 revert v
 refine IsV.rec (motive_1:=fun x _ _=>∀ {v},IsV ρ' h x v→IsV ρ h x v) (motive_2:=fun x _ _=>∀ {v},IsVs ρ' h x v→IsVs ρ h x v) ?_ ?_ ?_ ?_ ?_ ?_ ?_ ?_ ?_ ?_ ?_ ?_ ?_ ?_ H0
 ·intro v H;rw [show v = .none from H.inv];exact .none
 ·intro _ v H;rw [show v = _ from H.inv];exact .bool
 ·intro _ _ v H;refine x1a1 (H.inv :) fun t e=>?_;rw [e];exact .int
 ·intro _ _ v H;refine x1a1 (H.inv :) fun t e=>?_;rw [e];exact .str
 ·intro _ v H;rw [show v = _ from H.inv];exact .top
 ·intro _ v H;rw [show v = _ from H.inv];exact .bi
 ·intro _ v H;rw [show v = _ from H.inv];exact .ty
 ·intro _ _ _ _ _ ih v H;refine x2a3 (H.inv :) fun a vs e ht hs=>?_;rw [e];exact .tup ht (ih hs)
 ·intro _ _ hn v H;refine x1a2 (H.inv :) fun a e h=>?_;rw [e];exact .loc (hn.trans ((getpre hp.adr hn).symm.trans h))
 ·intro _ _ _ hb v H;refine x2a2 (H.inv :) fun m t e h=>?_;rw [e,← (hb.mono hp.sym).det h];exact .bv hb
 ·intro _ _ hb v H;refine x1a2 (H.inv :) fun b e h=>?_;rw [e];exact .sb (hb.trans ((getpre hp.sym hb).symm.trans h))
 ·intro _ _ hb _ v H;refine x0a2 (H.inv :) fun h ho=>?_;exact .opq (hb.trans ((getpre hp.sym hb).symm.trans h)) ho
 ·intro v H;rw [show v = [] from H.inv];exact .nil
 ·intro _ _ _ _ _ _ i1 i2 v H;refine x2a3 (H.inv :) fun w ws e a r=>?_;rw [e];exact .cons (i1 a) (i2 r)
theorem IsVs.down {ρ ρ':Va} {h0 h:Heap} (hp:ρ.le ρ'):∀ {x:List V} {v0 v:List Value},IsVs ρ h0 x v0→IsVs ρ' h x v→IsVs ρ h x v
 | [],_,v,_,H=>by rw [show v = [] from H.inv];exact .nil
 | _ :: _,_,v,H0,H=>by
  refine x2a3 (H.inv :) fun w ws e a r=>?_
  refine x2a3 (H0.inv :) fun _ _ _ a0 r0=>?_
  rw [e];exact .cons (a0.down hp a) (IsVs.down hp r0 r)
theorem NsHas.down {ρ ρ':Va} {h0 h:Heap} (hp:ρ.le ρ') {m:List (Nat×V)} {mm0 mm:Str→Option Value} (x0:NsHas ρ h0 m mm0) (x:NsHas ρ' h m mm):NsHas ρ h m mm:=fun y v e=>by
 refine x1a2 (x0 y v e :) fun v0 _ h1=>?_
 refine x1a2 (x y v e :) fun vv h2 h3=>?_
 exact ⟨vv,h2,h1.down hp h3⟩
noncomputable def frzL (C:SC) (F:Fm):List Addr:=C.P :: F.L :: (F.fr.map (·.1)++F.held.map (·.1))
noncomputable def frz (C:SC) (F:Fm) (s:Shared):SC:={ C with base:=hideAll s.heap (frzL C F),hB:=hideAll_none _ (.head _) }
section
variable {C:SC} {T:Tk} {F:Fm} {ρ ρ':Va} {σ σ':St} {s s':Shared} {A:Around} {Q E:Value→Shared→Prop} {r:Rc}
theorem Off.frz {h:Heap} {a:Addr} (x:Off C ρ h a) (hm:a∈frzL C F):Off (frz C F s) ρ h a:=⟨x.adr,x.h0,x.live,hideAll_none _ hm⟩
theorem Off.thaw {h:Heap} {a:Addr} {C':SC} (x:Off C ρ h a) {h':Heap} {ρ':Va} (y:Off C' ρ' h' a):Off C ρ h' a:=⟨x.adr,x.h0,y.live,x.base⟩
theorem frz_L:F.L∈frzL C F:=.tail _ (.head _)
theorem frz_fr {p:Addr×List (Nat×V)} (hp:p∈F.fr):p.1∈frzL C F:=.tail _ (.tail _ (List.mem_append.mpr (.inl (List.mem_map_of_mem hp))))
theorem frz_held {p:Addr×Obj} (hp:p∈F.held):p.1∈frzL C F:=.tail _ (.tail _ (List.mem_append.mpr (.inr (List.mem_map_of_mem hp))))
theorem frz_not {a:Addr} (h1:a≠C.P) (h2:a≠F.L) (h3:∀ p∈F.fr,a≠p.1) (h4:∀ p∈F.held,a≠p.1):a ∉ frzL C F:=fun hm=>by
 rcases List.mem_cons.mp hm with q | hm
 ·exact h1 q
 rcases List.mem_cons.mp hm with q | hm
 ·exact h2 q
 rcases List.mem_append.mp hm with hm | hm
 ·refine x1a2 (List.mem_map.mp hm :) fun p hp q=>?_;exact h3 p hp q.symm
 ·refine x1a2 (List.mem_map.mp hm :) fun p hp q=>?_;exact h4 p hp q.symm
theorem Rel.freeze (R:Rel C F ρ σ s):Rel (frz C F s) F ρ { σ with fz:=σ.nxt } s where
 bk:=fun a o e=>of_hideAll _ e
 bn:=fun n a e hz=>by
  have hz':σ.nxt≤n:=hz
  rw [R.nxt] at hz'
  have:=(List.getElem?_eq_some_iff.mp e).1
  lia
 keep:=R.keep
 fresh:=R.fresh
 nodup:=R.nodup
 live:=R.live
 nxt:=R.nxt
 syn:=R.syn
 led:=fun n o e=>by
  refine x1a2 (R.led n o e :) fun a p q=>?_
  refine ⟨a,p,?_⟩
  induction o using O.casesOn <;> exact q
 cur:=⟨R.cur.1.frz frz_L,R.cur.2⟩
 fr:=fun p hp=>⟨⟨(R.fr p hp).1.1.frz (frz_fr hp),(R.fr p hp).1.2⟩,(R.fr p hp).2⟩
 held:=fun p hp=>x0a4 (R.held p hp) fun a b c d=>⟨a.frz (frz_held hp),b,c,d⟩
 tab:=⟨R.tab.tab⟩
 gens:=R.gens
 os:=R.os
 frames:=R.frames
 fsL:=R.fsL
theorem Rel.thaw {σ':St} (R:Rel C F ρ σ s) (R':Rel (frz C F s) F ρ' σ' s') (hcur:σ'.cur = σ.cur) (hp:ρ.le ρ') (tk:TK s.heap s'.heap):Rel C F ρ σ s':=by
 have kept:∀ a o,a ∉ frzL C F→s.heap.get? a = some o→s'.heap.get? a = some o:=fun a o hn e=>R'.bk a o (hideAll_get _ e hn)
 have kadr:∀ a∈ρ.adr,∀ o,s.heap.get? a = some o→s'.heap.get? a = some o:=fun a ha o e =>
  kept a o (frz_not (C.off_P (R.fresh a ha)) (fun q=>R.cur.1.adr (q▸ha)) (fun p hp q=>(R.fr p hp).1.1.adr (q▸ha)) (fun p hp q=>(R.held p hp).1.adr (q▸ha))) e
 exact {
  bk:=fun a o e=>kept a o (frz_not (fun q=>by rw [q,C.hB] at e;exact nS' e) (fun q=>by rw [q,R.cur.1.base] at e;exact nS' e) (fun p hp q=>by rw [q,(R.fr p hp).1.1.base] at e;exact nS' e) (fun p hp q=>by rw [q,(R.held p hp).1.base] at e;exact nS' e)) (R.bk a o e)
  bn:=R.bn
  keep:=R'.keep
  fresh:=R.fresh
  nodup:=R.nodup
  live:=fun a ha=>x1a1 (R.live a ha) fun o e=>⟨o,kadr a ha o e⟩
  nxt:=R.nxt
  syn:=R.syn
  led:=fun n o e=>x1a2 (R.led n o e) fun a p q=>⟨a,p,q.mono (Va.le.refl _) tk (kadr a (List.mem_of_getElem? p))⟩
  cur:=by
   refine y12 R'.cur fun x mm n m=>?_
   refine y12 R.cur fun x0 mm0 _ m0=>?_
   exact ⟨x0.thaw x,mm,n,m0.down hp (hcur▸m)⟩
  fr:=fun p hp'=>by
   obtain ⟨⟨x,y⟩,mm,n,m⟩:=R'.fr p hp'
   obtain ⟨⟨x0,_⟩,mm0,_,m0⟩:=R.fr p hp'
   exact ⟨⟨x0.thaw x,y⟩,mm,n,m0.down hp m⟩
  held:=fun p hp'=>by
   refine x0a4 (R'.held p hp' :) fun x y z w=>?_
   exact ⟨(R.held p hp').1.thaw x,y,z,w⟩
  tab:=⟨R'.tab.tab⟩
  gens:=R'.gens
  os:=R'.os
  frames:=R'.frames
  fsL:=R.fsL }
theorem RcOK.cur {f:V} {d:Nat} {vs:List V} {κ ε:KX} {c:List (Nat×V)} (hr:RcOK C r) (ha:RcAny r) (h:r d f vs σ κ ε = true) {fv:Value} {args:List Value} (Ar:Arnd A F d) (R:Rel C F ρ { σ with cur:=c } s) (hf:IsV ρ s.heap f fv) (hu:IsVs ρ s.heap vs args)
  (GQ:∀ ρ' σ' s' x v,κ x { σ' with cur:=σ.cur } = true→σ'.cur = c→Next C F ρ s.heap ρ' σ' s'→IsV ρ' s'.heap x v→Q v s')
  (GE:∀ ρ' σ' s' u e,ε u { σ' with cur:=σ.cur } = true→σ'.cur = c→Next C F ρ s.heap ρ' σ' s'→ExcIs C F ρ' σ' s'.heap u e→E e s') :
  Kept (model PW C.w) s.heap fv∧wpAny (model PW C.w) A (call fv args) Q E s∧((∃ a,f = .top a)→codeAny (model PW C.w) A (.call fv ⟨args,[]⟩) (CallR Q E) s) :=
 hr d f vs _ _ _ (ha d f vs σ κ ε c h) A F ρ s Q E fv args Ar R hf hu
  (fun ρ' σ' s' x v hκ N hv=>x0a2 (onCur_at hκ) fun h1 h2=>GQ ρ' σ' s' x v h2 h1 N hv)
  (fun ρ' σ' s' u e hε N hx=>x0a2 (onCur_at hε) fun h1 h2=>GE ρ' σ' s' u e h2 h1 N hx)
end
end Mine
end
section
set_option maxHeartbeats 4000000
namespace Mine
section
variable {C:SC} {T:Tk} {F:Fm} {ρ ρ':Va} {σ σ':St} {s s':Shared} {A:Around} {Q E:Value→Shared→Prop} {r:Rc}
theorem tup3_at {x:V} {f:V→V→V→Bool} (h:tup3 x f = true):∃ a b c,x = .tup [a,b,c]∧f a b c = true:=by
 refine x1a2 (mTup h ft :) fun l e h=>?_
 rw [e]
 induction l using List.casesOn with
 | nil=>exact ft' h
 | cons a t =>
 induction t using List.casesOn with
 | nil=>exact ft' h
 | cons b t =>
 induction t using List.casesOn with
 | nil=>exact ft' h
 | cons c t =>
 induction t using List.casesOn with
 | nil=>exact ⟨_,_,_,rfl,h⟩
 | cons _ _=>exact ft' h
theorem widW_at {x:V} {f:Nat→Bool} (h:widW x f = true):∃ n:Nat,x = .int n∧f n = true:=by
 refine x1a2 (mInt h ft :) fun i e h=>?_
 rw [e]
 induction i using Int.casesOn with
 | ofNat n=>exact ⟨_,rfl,h⟩
 | negSucc n=>exact ft' h
theorem andB_at {a b:Bool} (h:andB a b = true):a = true∧b = true:=by induction a using Bool.casesOn <;> first | exact ⟨rfl,h⟩ | exact ft' h
theorem isI_at {x:V} {i:Int} (h:isI x i = true):x = .int i:=by
 refine x1a2 (mInt h ft :) fun j e h=>?_
 rw [beqI_eq] at h;rw [e,of_decide_eq_true h]
theorem sameB_at {x y:V} (h:sameB x y = true):∃ a b,x = .bv a∧y = .bv b∧beqBts a b = true:=by
 induction x using V.casesOn with
 | bv a =>
  induction y using V.casesOn with
  | bv b=>exact ⟨_,_,rfl,rfl,h⟩
  | _=>exact ft' h
 | _=>exact ft' h
theorem IsV.three {h:Heap} {a b c:V} {v:Value} (x:IsV ρ h (.tup [a,b,c]) v):∃ t va vb vc,v = .ref t∧IsTup h t [va,vb,vc].toArray∧IsV ρ h a va∧IsV ρ h b vb∧IsV ρ h c vc:=by
 refine x2a3 (x.inv :) fun t vs e ht hs=>?_
 refine x2a3 (hs.inv :) fun va v1 e1 ha hs=>?_
 refine x2a3 (hs.inv :) fun vb v2 e2 hb hs=>?_
 refine x2a3 (hs.inv :) fun vc v3 e3 hc hs=>?_
 have e4:v3 = []:=hs.inv
 rw [e1,e2,e3,e4] at ht
 exact ⟨t,va,vb,vc,e,ht,ha,hb,hc⟩
theorem chkP_ok {h0 h:Heap} {x u:V} {v0 v:Value} (hp:ρ.le ρ') (hc:chkP u x = true) (h1:IsV ρ h0 x v0) (h2:IsV ρ' h u v):IsV ρ h x v:=by
 unfold chkP at hc
 refine x3a2 (tup3_at (x:=x) hc :) fun w a b q3q hc=>?_;subst q3q
 refine x3a2 (tup3_at (x:=u) hc :) fun w' a' b' q3q hc=>?_;subst q3q
 refine x1a2 (widW_at (x:=w) hc :) fun n q1q hc=>?_;subst q1q
 refine x0a2 (andB_at hc :) fun hw hc=>?_
 refine x0a2 (andB_at hc :) fun ha hb=>?_
 obtain rfl:=isI_at hw
 refine x2a3 (sameB_at ha :) fun la la' q2q q3q ea=>?_;subst q2q;subst q3q
 refine x2a3 (sameB_at hb :) fun lb lb' q2q q3q eb=>?_;subst q2q;subst q3q
 refine x4a5 (h1.three :) fun t0 _ _ _ _ _ _ p1 p2=>?_
 refine x4a5 (h2.three :) fun t vw va vb q4q ht q0 q1 q2=>?_;subst q4q
 refine x2a2 (p1.inv :) fun m1 _ _ p1=>?_
 refine x2a2 (p2.inv :) fun m2 _ _ p2=>?_
 refine x1a1 (q0.inv :) fun tw ew=>?_
 refine x2a2 (q1.inv :) fun n1 ta ea' q1=>?_
 refine x2a2 (q2.inv :) fun n2 tb eb' q2=>?_
 have e1:=beqBts_ok ea (p1.mono hp.sym) q1
 have e2:=beqBts_ok eb (p2.mono hp.sym) q2
 rw [ew,ea',eb'] at ht
 exact .tup ht (.cons .int (.cons (.bv (e1▸p1)) (.cons (.bv (e2▸p2)) .nil)))
theorem chkA_ok {h:Heap} {x u:V} {v:Value} (hc:chkA u x = true) (h1:AllZ ρ x) (h2:IsV ρ' h u v):IsV ρ h x v:=by
 refine x3a3 h1 fun w la lb q3q p1 p2=>?_;clear h1;subst q3q
 unfold chkA at hc
 refine x3a2 (tup3_at (x:=.tup [.int w,.bv la,.bv lb]) hc :) fun w2 a2 b2 e0 hc2=>?_
 cases e0
 clear hc
 refine x3a2 (tup3_at (x:=u) hc2 :) fun w' a' b' q3q hc3=>?_;subst q3q
 clear hc2
 refine x1a2 (widW_at (x:=.int (w:Int)) hc3 :) fun n e1 hc=>?_
 refine x0a2 (andB_at hc :) fun hw hc=>?_
 refine x0a2 (andB_at hc :) fun _ hc=>?_
 refine x0a2 (andB_at hc :) fun _ hc=>?_
 refine x0a2 (andB_at hc :) fun ha hb=>?_
 obtain rfl:=isI_at hw
 obtain rfl:=isI_at ha
 obtain rfl:=isI_at hb
 have hn:w = n:=by cases e1;rfl
 subst hn
 refine x4a5 (h2.three :) fun t vw va vb q4q ht q0 q1 q2=>?_;subst q4q
 refine x1a1 (q0.inv :) fun _ e0=>?_
 refine x1a1 (q1.inv :) fun _ e1=>?_
 refine x1a1 (q2.inv :) fun _ e2=>?_
 rw [e0,e1,e2] at ht
 exact .tup ht (.cons .int (.cons (.bv (m:=0) p1) (.cons (.bv p2) .nil)))
theorem getK_ok {g d m:Nat} {u:V} {k:Int} {kt:Tok} {xs:List (Int×V)} {κ:V→Bool} {c:List (Nat×V)} {uv:Value} (h:getK g r d u k σ m xs κ = true) (hm:σ.at m = some (.vals xs)) (hrf:∀ F s,RcOK (frz C F s) r) (hra:RcAny r)
  (Ar:Arnd A F d) (R:Rel C F ρ { σ with cur:=c } s) (hu:IsV ρ s.heap u uv)
  (hQ:∀ s' x v,κ x = true→lkI xs k = some x→Next C F ρ s.heap ρ { σ with cur:=c } s'→IsV ρ s'.heap x v→Q v s') :
  Kept (model PW C.w) s.heap (.ref g)∧wpAny (model PW C.w) A (call (.ref g) [uv,.int k kt]) Q E s∧codeAny (model PW C.w) A (.call (.ref g) ⟨[uv,.int k kt],[]⟩) (CallR Q E) s:=by
 unfold getK at h
 induction ek:lkI xs k using Option.casesOn with
 | none=>rw [ek] at h;exact ft' h
 | some x =>
  rw [ek] at h
  refine x0a2 (andB_at h :) fun h1 h2=>?_
  refine x0a2 (andB_at h2 :) fun h2 h3=>?_
  refine x1a2 (R.led m (.vals xs) hm :) fun a ha io=>?_
  obtain ⟨hs,kvs,hd,hv⟩:=io
  have go:∀ (o:Option V) (chk:V→Bool),runG g r d u k σ m o chk = true→IsO C ρ s.heap a (.one k o)→(∀ ρ' u' (s':Shared) v,chk u' = true→ρ.le ρ'→IsV ρ' s'.heap u' v→IsV ρ s'.heap x v) →
    Kept (model PW C.w) s.heap (.ref g)∧wpAny (model PW C.w) A (call (.ref g) [uv,.int k kt]) Q E s∧codeAny (model PW C.w) A (.call (.ref g) ⟨[uv,.int k kt],[]⟩) (CallR Q E) s:=by
   intro o chk hrun H hchk
   have R2:=(R.view ha H).freeze
   have:=RcOK.cur (c:=c) (hrf F s) hra hrun (F:=F) (ρ:=ρ) (s:=s) (A:=A) (Q:=Q) (E:=E) (fv:=.ref g) (args:=[uv,.int k kt]) Ar R2 .top (.cons hu (.cons .int .nil))
    (fun ρ' σ' s' u' v hκ hcur N hv=>hQ s' x v h3 ek ⟨Va.le.refl _,N.tk,R.thaw N.rel hcur N.pre N.tk⟩ (hchk ρ' u' s' v hκ N.pre hv))
    (fun _ _ _ _ _ q=>(Bool.false_ne_true q).elim)
   exact ⟨this.1,this.2.1,this.2.2 ⟨_,rfl⟩⟩
  rcases hv.1 k x ek with ⟨v0,e0,hi⟩ | ⟨e0,hz⟩
  ·exact go (some x) _ h1 ⟨hs,kvs,hd,v0,e0,hi⟩ fun ρ' u' s' v hκ hp hv=>chkP_ok hp hκ hi hv
  ·exact go none _ h2 ⟨hs,kvs,hd,e0⟩ fun ρ' u' s' v hκ hp hv=>chkA_ok hκ hz hv
end
end Mine
end
section
set_option maxHeartbeats 4000000
namespace Mine
structure SP where
 (p0 p1 p2 p3 p4 p5 p6 p7 p8 p9 p10 p11 p12 p13 p14 p15 p16 p17 p18 p19 p20 p21 p22 p23 p24 p25 p26 p27 p28 p29 p30:Pos)
noncomputable def setS1 (P:SP):PySem.Stmt:=.Assign [.Name "old" P.p3] (.Call (.Attribute (.Name "self" P.p4) "get" P.p5) [.Name "key" P.p6] [] P.p7) P.p8
noncomputable def setS2 (P:SP):PySem.Stmt:=.Assign [.Name "new" P.p9] (.Call (.Name "put_slice" P.p10) [.Name "old" P.p11,.Name "lo" P.p12,.Name "value" P.p13] [] P.p14) P.p15
noncomputable def setS3 (P:SP):PySem.Stmt:=.If (.Compare (.Name "new" P.p16) [.Eq] [.Name "old" P.p17] P.p18) [.Return (some (.Constant (.bool false) 0 P.p19)) P.p20] [] P.p21
noncomputable def setS4 (P:SP):PySem.Stmt:=.Assign [.Subscript (.Attribute (.Name "self" P.p22) "values" P.p23) (.Name "key" P.p24) P.p25] (.Name "new" P.p26) P.p27
noncomputable def setS5 (P:SP):PySem.Stmt:=.Return (some (.Constant (.bool true) 0 P.p28)) P.p29
noncomputable def setIf (P:SP):PySem.Stmt:=.If (.Compare (.Name "place" P.p0) [.Is] [.Constant .none 0 P.p1] P.p2) [setS1 P,setS2 P,setS3 P,setS4 P,setS5 P] [] P.p30
section
variable {C:SC} {T:Tk} {F:Fm} {ρ ρ':Va} {σ σ':St} {s s':Shared} {A:Around} {env:Env} {ks:Kd} {v:Ve} {E:Value→Shared→Prop} {r:Rc}
theorem notOdd:∀ x∈[("self":Str),"key","place","lo","value","old","new"],oddName (key x) = false:=by decide +kernel
theorem name_step {x:Str} {p:Pos} {u:V} {Q:Value→Shared→Prop} (H:EnvOK C A F env ks v ρ) (R:Rel C F ρ σ s) (hk:lk ks (key x) = some .local) (hl:lk σ.cur (key x) = some u) (ho:oddName (key x) = false) (hQ:∀ vv,IsV ρ s.heap u vv→Q vv s) :
  wpAny (model PW C.w) A (eval (.Name x p) env) Q E s :=
 wpAny_Name (loadK_ok (p:=p) (by rw [hk];exact hl) ho H R hQ) (oddName_ok ho).1
theorem store_step {x:Str} {p p2:Pos} {e:PySem.Expr} {Q:Flow→Shared→Prop} (H:EnvOK C A F env ks v ρ) (hk:lk ks (key x) = some .local) (ho:okVal (.Name x p) e = true)
  (h:wpAny (model PW C.w) A (eval e env) (fun vv s1=>∃ ρ1 σ1 u,ρ.le ρ1∧Rel C F ρ1 σ1 s1∧IsV ρ1 s1.heap u vv∧∀ s2,Next C F ρ1 s1.heap ρ1 (σ1.set (key x) u) s2→Q .next s2) E s) :
  wpAny (model PW C.w) A (exec (.Assign [.Name x p] e p2) env) Q E s:=by
 refine x0a2 (okVal_swap (env:=env) (n:=p2.line) ho :) fun g1 g2=>?_
 refine wpAny_Assign_stores (wpAny_mono h (fun vv s1 hz=>x3a4 hz fun ρ1 σ1 u hp R1 hu hQ=>?_) fun _ _ x=>x) g1 g2
 have hm:(assignEach [.Name x p] env).map (·.2) = [assign (.Name x p) env]:=rfl
 rw [hm,assignAll_one]
 refine wpAny_assign_Name (storeK_ok (ks:=ks) (v:=v) (by rw [hk];rfl) (H.mono hp) R1 hu fun s2 N=>hQ s2 N)
noncomputable def nmX (T:Tk) (ks:Kd) (e:PySem.Expr):Mine.C:=match e with | .Name x _=>cNm T ks (key x) | _=>noC
theorem nmX_ok (G:Gr C T) {ks:Kd} {r:Rc}:WCx C ks r (nmX T ks):=⟨fun e=>by induction e using Expr.casesOn <;> first | exact name_ok G | exact noC_ok,fun _ _=>rfl,fun _ _ _=>rfl⟩
theorem compX_name {x:Str} {p:Pos} {u:V} {κ ε:KX} (hk:lk ks (key x) = some .local) (ho:oddName (key x) = false) (hl:lk σ.cur (key x) = some u) (h:κ u σ = true):(nmX T ks (.Name x p)).x r v σ κ ε = true:=by
 show (cNm T ks (key x)).x r v σ κ ε = true
 unfold cNm
 rw [hk]
 show (match oddName (key x) with | true=>noC | false=>cName (loadK (some .local) (key x))).x r v σ κ ε = true
 rw [ho]
 show retO κ σ (lk σ.cur (key x)) = true
 rw [hl]
 exact h
noncomputable def asks (P:V→St→Prop):KX:=fun u σ=>@decide (P u σ) (Classical.propDecidable _)
theorem asks_of {P:V→St→Prop} {u:V} {σ:St} (h:asks P u σ = true):P u σ:=@of_decide_eq_true _ (Classical.propDecidable _) h
theorem asks_to {P:V→St→Prop} {u:V} {σ:St} (h:P u σ):asks P u σ = true:=@decide_eq_true _ (Classical.propDecidable _) h
theorem storeVals_at {u:V} {f:Nat→List (Int×V)→Bool} (h:storeVals T u σ f = true):∃ m xs,attrOf T u T.kValues σ = some (.loc m)∧σ.at m = some (.vals xs)∧f m xs = true:=by
 refine x1a2 (mOV h ft :) fun w ew h=>?_
 refine x1a2 (mLoc h ft :) fun m e h=>?_
 refine x1a2 (mSome h ft :) fun o eo h=>?_
 induction o using O.casesOn with
 | vals xs=>exact ⟨m,_,e▸ew,eo,h⟩
 | _=>exact ft' h
theorem lackU_at {u:V} {a:Nat} (h:lackU u a σ = true):∃ n c d,u = .loc n∧σ.at n = some (.inst c d)∧lacks d a σ = true:=by
 refine x1a2 (mLoc h ft :) fun n e h=>?_
 refine x1a2 (mSome h ft :) fun o eo h=>?_
 induction o using O.casesOn with
 | inst c d=>exact ⟨n,_,_,e,eo,h⟩
 | _=>exact ft' h
theorem normV_at {x:V} {f:V→Bool} (h:normV x f = true):∃ (n:Nat) (a b:V) (la lb:List Bt),x = .tup [.int n,a,b]∧bitsOf a = some la∧bitsOf b = some lb∧f (.tup [.int n,.bv la,.bv lb]) = true:=by
 unfold normV at h
 refine x3a2 (tup3_at (x:=x) h :) fun w a b q3q h2=>?_;subst q3q
 refine x1a2 (widW_at (x:=w) h2 :) fun n q1q h3=>?_;subst q1q
 clear h h2
 have h4:(match bitsOf a with | some l=>normB b fun b'=>f (.tup [.int (Int.ofNat n),.bv l,b']) | none=>false) = true:=h3
 induction ea:bitsOf a using Option.casesOn with
 | none=>rw [ea] at h4;exact ft' h4
 | some la =>
  rw [ea] at h4
  have h5:(match bitsOf b with | some l=>f (.tup [.int (Int.ofNat n),.bv la,.bv l]) | none=>false) = true:=h4
  induction eb:bitsOf b using Option.casesOn with
  | none=>rw [eb] at h5;exact ft' h5
  | some lb=>rw [eb] at h5;exact ⟨n,a,b,la,lb,rfl,ea,eb,h5⟩
set_option tactic.hygienic true in
theorem set1_ok {P:SP} {c:List (Nat×V)} {u:V} {k:Int} {m g:Nat} {xs:List (Int×V)} {κ:V→Bool} {Q:Flow→Shared→Prop} (G:Gr C T) (hr:RcOK C r) (hrf:∀ F s,RcOK (frz C F s) r) (hra:RcAny r)
  (H:EnvOK C A F env ks v ρ) (R:Rel C F ρ { σ with cur:=c } s) (hline:P.p5.endLine = P.p7.line) (hks:∀ x∈[("self":Str),"key","place","lo","value","old","new"],lk ks (key x) = some .local)
  (h1:lk c (key "self") = some u) (h2:lk c (key "key") = some (.int k)) (hst:isStV T u σ = true) (hat:attrOf T u T.kValues σ = some (.loc m)) (hm:σ.at m = some (.vals xs)) (hl:lackU u T.kGet σ = true) (hg:getFn T T.kGet = some g)
  (h:getK g r v.dep u k σ m xs κ = true) (hQ:∀ ρ' s' x,κ x = true→lkI xs k = some x→Next C F ρ s.heap ρ' { σ with cur:=up c (key "old") x } s'→Q .next s') :
  wpAny (model PW C.w) A (exec (setS1 P) env) Q E s:=by
 have kl:=fun x hx=>hks x hx
 refine store_step H (hks "old" (by simp)) rfl ?_
 have hself:(nmX T ks (.Name "self" P.p4)).x r v { σ with cur:=c } (asks fun u' σ'=>u' = u∧σ' = { σ with cur:=c }) noE = true :=
  compX_name (hks _ (by simp)) (notOdd _ (by simp)) h1 (asks_to ⟨rfl,rfl⟩)
 refine ownMeth (cx:=nmX T ks) (nmX_ok G) (fun _ _ _=>rfl) rfl hline (by simp) hself H R noE_go ?_
 intro ρ' σ' s' u' uv hu' N huv pl
 refine x0a2 (asks_of hu' :) fun q0q q1q=>?_;subst q0q;subst q1q
 refine x3a3 (lackU_at hl :) fun n cc d q3q en hlk=>?_;subst q3q
 have hcc:cc = T.tx.isStore:=by
  have:(match σ.at n with | some o=>(match o with | .inst c _=>Nat.beq c T.tx.isStore | _=>false) | none=>false) = true:=hst
  rw [en] at this
  exact Nat.eq_of_beq_eq_true this
 subst hcc
 refine x5a7 (attrOf_at hat :) fun n2 c2 d2 cl mm e0 e1 e2 e3 e4 e5 e6=>?_
 cases e0
 rw [en] at e1
 cases e1
 have hfn:lk cl.meths (key "get") = some g:=by
  have:(match T.tx.cls.get T.tx.isStore with | some cl=>lk cl.meths T.kGet | none=>none) = some g:=hg
  rw [e2] at this
  rw [← G.nGet];exact this
 have hl0:ifB (notExc T T.tx.isStore) (lacks d (key "get") { σ with cur:=c }) false = true:=by
  have hne:notExc T T.tx.isStore = true:=by unfold notExc;rw [e2];dsimp only;rw [e6];rfl
  rw [hne,← G.nGet]
  exact hlk
 refine getMethod_own G N.rel huv en hl0 e2 hfn ?_
 have hkey:evs (nmX T ks) [.Name "key" P.p6] r v { σ with cur:=c } (fun us σ'=>asks (fun _ σ'=>us = [.int k]∧σ' = { σ with cur:=c }) .none σ') noE = true:=by
  show (nmX T ks (.Name "key" P.p6)).x r v { σ with cur:=c } (fun u σ'=>(fun us σ''=>asks (fun _ σ'=>(u :: us) = [.int k]∧σ' = { σ with cur:=c }) .none σ'') [] σ') noE = true
  exact compX_name (hks _ (by simp)) (notOdd _ (by simp)) h2 (asks_to ⟨rfl,rfl⟩)
 refine ⟨_,hkey,N,?_⟩
 intro ρ2 σ2 s2 us vs hus
 refine x0a2 (asks_of hus :) fun q0q q1q=>?_;subst q0q;subst q1q
 intro N2 hvs
 cases hvs with
 | cons hk hr0 =>
 cases hr0 with
 | nil =>
 cases hk with
 | int =>
 have NN:=N.trans N2
 rename_i kt
 have key:=getK_ok (kt:=kt) (A:=A) (E:=E) (Q:=fun vv s1=>∃ ρ1 σ1 u,ρ.le ρ1∧Rel C F ρ1 σ1 s1∧IsV ρ1 s1.heap u vv∧∀ s2,Next C F ρ1 s1.heap ρ1 (σ1.set (key "old") u) s2→Q .next s2) h hm hrf hra H.ar NN.rel (huv.mono N2.pre N2.tk) ?_
 ·exact ⟨key.1,key.2.1⟩
 ·intro s3 x vx hκ hx N3 hvx
  exact ⟨ρ2,{ σ with cur:=c },x,NN.pre,N3.rel,hvx,fun s4 N4=>hQ ρ2 s4 x hκ hx ((NN.trans N3).trans N4)⟩
end
end Mine
end
section
set_option maxHeartbeats 4000000
namespace Mine
section
variable {C:SC} {T:Tk} {F:Fm} {ρ ρ':Va} {σ σ':St} {s s':Shared} {A:Around} {env:Env} {ks:Kd} {v:Ve} {E:Value→Shared→Prop} {r:Rc}
theorem compX_glob {x:Str} {p:Pos} {u:V} {κ ε:KX} (hk:lk ks (key x) = some .globalImplicit) (hg:T.tx.glob.get (key x) = some u) (h:κ u σ = true):(nmX T ks (.Name x p)).x r v σ κ ε = true:=by
 show (cNm T ks (key x)).x r v σ κ ε = true
 unfold cNm
 rw [hk,hg]
 exact h
theorem set2_ok {P:SP} {c:List (Nat×V)} {x lo w:V} {κ ε:KX} {Q:Flow→Shared→Prop} (G:Gr C T) (hr:RcOK C r) (hra:RcAny r) (H:EnvOK C A F env ks v ρ) (R:Rel C F ρ { σ with cur:=c } s)
  (hks:∀ x∈[("self":Str),"key","place","lo","value","old","new"],lk ks (key x) = some .local) (hkg:lk ks (key "put_slice") = some .globalImplicit) (hg:T.tx.glob.get (key "put_slice") = some T.put)
  (h1:lk c (key "old") = some x) (h2:lk c (key "lo") = some lo) (h3:lk c (key "value") = some w) (h:r v.dep T.put [x,lo,w] σ κ ε = true)
  (hQ:∀ (ρ':Va) (σ':St) (s':Shared) (y:V),κ y { σ' with cur:=σ.cur } = true→Next C F ρ s.heap ρ' { σ' with cur:=up c (key "new") y } s'→Q .next s')
  (hE:∀ (ρ':Va) (σ':St) (s':Shared) (u:V) (e:Value),ε u { σ' with cur:=σ.cur } = true→Next C F ρ s.heap ρ' σ' s'→ExcIs C F ρ' σ' s'.heap u e→E e s') :
  wpAny (model PW C.w) A (exec (setS2 P) env) Q E s:=by
 refine store_step H (hks "new" (by simp)) rfl ?_
 rw [eval_Call_plain (by intro _ _ _ q;cases q)]
 have hc:WCx C ks r (nmX T ks):=nmX_ok G
 have hput:(nmX T ks (.Name "put_slice" P.p10)).x r v { σ with cur:=c } (asks fun u' σ'=>u' = T.put∧σ' = { σ with cur:=c }) noE = true:=compX_glob hkg hg (asks_to ⟨rfl,rfl⟩)
 refine wpAny_bind ((hc.ok (.Name "put_slice" P.p10)).x v _ _ noE hput A F env ρ s _ E H R ?_ noE_go)
 intro ρ1 σ1 s1 u1 gv hu1
 refine x0a2 (asks_of hu1 :) fun q0q q1q=>?_;subst q0q;subst q1q
 intro N1 hgv
 have hargs:evs (nmX T ks) [.Name "old" P.p11,.Name "lo" P.p12,.Name "value" P.p13] r v { σ with cur:=c } (fun us σ'=>asks (fun _ σ'=>us = [x,lo,w]∧σ' = { σ with cur:=c }) .none σ') noE = true:=by
  show (nmX T ks (.Name "old" P.p11)).x r v { σ with cur:=c } _ noE = true
  refine compX_name (hks _ (by simp)) (notOdd _ (by simp)) h1 ?_
  show (nmX T ks (.Name "lo" P.p12)).x r v { σ with cur:=c } _ noE = true
  refine compX_name (hks _ (by simp)) (notOdd _ (by simp)) h2 ?_
  show (nmX T ks (.Name "value" P.p13)).x r v { σ with cur:=c } _ noE = true
  exact compX_name (hks _ (by simp)) (notOdd _ (by simp)) h3 (asks_to ⟨rfl,rfl⟩)
 refine callWith_of (P:=fun h=>Kept (model PW C.w) h gv) rfl (fun h x=>x) (args_ok hc rfl hargs (H.mono N1.pre) N1.rel ?_ noE_go)
 intro ρ2 σ2 s2 us vs hus
 refine x0a2 (asks_of hus :) fun q0q q1q=>?_;subst q0q;subst q1q
 intro N2 hvs
 have NN:=N1.trans N2
 have key:=RcOK.cur (c:=c) hr hra h (A:=A) (E:=E) (Q:=fun vv s1=>∃ ρ1 σ1 u,ρ.le ρ1∧Rel C F ρ1 σ1 s1∧IsV ρ1 s1.heap u vv∧∀ s2,Next C F ρ1 s1.heap ρ1 (σ1.set (key "new") u) s2→Q .next s2)
  H.ar NN.rel (hgv.mono N2.pre N2.tk) hvs ?_ ?_
 ·exact ⟨key.1,key.2.1⟩
 ·intro ρ3 σ3 s3 y vy hκ hcur N3 hvy
  refine ⟨ρ3,σ3,y,NN.pre.trans N3.pre,N3.rel,hvy,fun s4 N4=>hQ ρ3 σ3 s4 y hκ ?_⟩
  have e:σ3.set (Mine.key "new") y = { σ3 with cur:=up c (Mine.key "new") y }:=by unfold St.set;rw [hcur]
  rw [← e]
  exact (NN.trans N3).trans N4
 ·intro ρ3 σ3 s3 u e hε hcur N3 hx
  exact hE ρ3 σ3 s3 u e hε (NN.trans N3) hx
end
end Mine
end
section
set_option maxHeartbeats 4000000
namespace Mine
section
variable {C:SC} {T:Tk} {F:Fm} {ρ ρ':Va} {σ σ':St} {s s':Shared} {A:Around} {env:Env} {ks:Kd} {v:Ve} {E:Value→Shared→Prop} {r:Rc}
theorem beqI_iff {a b:Int}:beqI a b = true ↔ a = b:=by rw [beqI_eq];exact decide_eq_true_iff
theorem eq3_at (σ:St) (a b c a' b' c':Int):∃ e,cmpV .Eq (.tup [.int a,.int b,.int c]) (.tup [.int a',.int b',.int c']) σ = some e∧(e = true→a = a'∧b = b'∧c = c'):=by
 refine ⟨_,rfl,?_⟩
 show (match beqI a a' with | true=>(match beqI b b' with | true=>(match beqI c c' with | true=>true | false=>false) | false=>false) | false=>false) = true→_
 intro h
 induction e1:beqI a a' using Bool.casesOn with
 | false=>rw [e1] at h;exact ft' h
 | true =>
  rw [e1] at h
  induction e2:beqI b b' using Bool.casesOn with
  | false=>rw [e2] at h;exact ft' h
  | true =>
   rw [e2] at h
   induction e3:beqI c c' using Bool.casesOn with
   | false=>rw [e3] at h;exact ft' h
   | true=>exact ⟨beqI_iff.mp e1,beqI_iff.mp e2,beqI_iff.mp e3⟩
theorem lkI_up {m:List (Int×V)} {x y:Int} {v:V}:lkI (upI m x v) y = if y = x then some v else lkI m y:=by
 induction m with
 | nil =>
  show lkI [(x,v)] y = _
  rw [lkI_cons]
  by_cases h:x = y
  ·subst h;simp
  ·rw [if_neg h,if_neg (Ne.symm h)];
 | cons p r ih =>
  obtain ⟨k,u⟩:=p
  rw [upI_cons]
  by_cases h:k = x
  ·subst h
   rw [if_pos rfl,lkI_cons,lkI_cons]
   by_cases q:k = y
   ·subst q;simp
   ·rw [if_neg q,if_neg q,if_neg (Ne.symm q)]
  ·rw [if_neg h,lkI_cons,lkI_cons,ih]
   by_cases q:k = y
   ·subst q;rw [if_pos rfl,if_pos rfl,if_neg h]
   ·rw [if_neg q,if_neg q]
theorem valueAt_stored {kvs:List (Int×Value)} {k y:Int} {v:Value} (hn:(kvs.map (·.1)).Nodup):valueAt (stored kvs k v) y = if y = k then some v else valueAt kvs y:=by
 have cons:∀ (k0:Int) (v0:Value) (r:List (Int×Value)),valueAt ((k0,v0) :: r) y = if k0 = y then some v0 else valueAt r y:=by
  intro k0 v0 r
  unfold valueAt
  rw [List.find?_cons]
  by_cases q:k0 = y
  ·simp [q]
  ·simp [q]
 induction kvs with
 | nil =>
  show valueAt [(k,v)] y = _
  rw [cons]
  by_cases h:k = y
  ·subst h;simp
  ·rw [if_neg h,if_neg (Ne.symm h)]
 | cons p r ih =>
  obtain ⟨k0,v0⟩:=p
  rw [List.map_cons,List.nodup_cons] at hn
  by_cases h:k0 = k
  ·subst h
   rw [stored_hit hn.1,cons,cons]
   by_cases q:k0 = y
   ·subst q;simp
   ·rw [if_neg q,if_neg q,if_neg (Ne.symm q)]
  ·rw [stored_miss h,cons,cons,ih hn.2]
   by_cases q:k0 = y
   ·subst q;rw [if_pos rfl,if_pos rfl,if_neg h]
   ·rw [if_neg q,if_neg q]
set_option tactic.hygienic true in
theorem mem_stored {kvs:List (Int×Value)} {k:Int} {v:Value} {p:Int×Value} (h:p∈stored kvs k v):p.1 = k∨p∈kvs:=by
 unfold stored at h
 split at h
 ·refine x1a2 (List.mem_map.mp h :) fun q hq e=>?_
  (revert e;refine ifR (fun _ e=>?_) fun _ e=>?_)
  ·rename_i z;exact .inl (by rw [← e];exact z)
  ·exact .inr (e▸hq)
 ·rcases List.mem_append.mp h with h | h
  ·exact .inr h
  ·exact .inl (by rw [List.mem_singleton.mp h])
theorem lkI_mem {m:List (Int×V)} {y:Int} (h:(lkI m y).isSome = true):y∈m.map (·.1):=by
 induction m with
 | nil=>exact ft' h
 | cons p r ih =>
  obtain ⟨k,u⟩:=p
  rw [lkI_cons] at h
  rw [List.map_cons]
  by_cases q:k = y
  ·subst q;exact .head _
  ·rw [if_neg q] at h;exact .tail _ (ih h)
theorem nodup_le:∀ {l m:List Int},l.Nodup→(∀ x∈l,x∈m)→l.length≤m.length
 | [],_,_,_=>Nat.zero_le _
 | x :: l,m,hn,hs=>by
  rw [List.nodup_cons] at hn
  have h1:=nodup_le (l:=l) (m:=m.erase x) hn.2 fun y hy=>(List.mem_erase_of_ne (fun (q:y = x)=>hn.1 (q▸hy))).mpr (hs y (.tail _ hy))
  have h2:=List.length_erase_of_mem (hs x (.head _))
  have h3:=List.length_pos_of_mem (hs x (.head _))
  simp only [List.length_cons]
  lia
theorem ValsAre.len {h:Heap} {xs:List (Int×V)} {kvs:List (Int×Value)} (x:ValsAre ρ h xs kvs) (hn:(kvs.map (·.1)).Nodup):kvs.length≤xs.length:=by
 have:=nodup_le (m:=xs.map (·.1)) hn fun y hy=>by
  refine x1a2 (List.mem_map.mp hy :) fun p hp q2q=>?_;subst q2q
  exact lkI_mem (x.2 p hp)
 simpa using this
theorem ValsAre.view {h:Heap} {xs:List (Int×V)} {kvs:List (Int×Value)} {k:Int} {x2 new:V} (x:ValsAre ρ h xs kvs) (hk:lkI xs k = some x2) (h1:∀ v,IsV ρ h x2 v→IsV ρ h new v) (h2:AllZ ρ x2→AllZ ρ new):ValsAre ρ h (upI xs k new) kvs:=by
 refine ⟨fun y z e=>?_,fun p hp=>?_⟩
 ·rw [lkI_up] at e
  by_cases q:y = k
  ·subst q
   rw [if_pos rfl] at e
   (refine jS e fun j=>?_;clear e;subst j)
   exact (x.1 y x2 hk).imp (fun h=>x1a2 h fun v a b=>⟨v,a,h1 v b⟩) fun h=>⟨h.1,h2 h.2⟩
  ·rw [if_neg q] at e
   exact x.1 y z e
 ·rw [lkI_up]
  split
  ·rfl
  ·exact x.2 p hp
theorem ValsAre.stored {h:Heap} {xs:List (Int×V)} {kvs:List (Int×Value)} {k:Int} {new:V} {v:Value} (x:ValsAre ρ h xs kvs) (hn:(kvs.map (·.1)).Nodup) (hv:IsV ρ h new v):ValsAre ρ h (upI xs k new) (PySem.stored kvs k v):=by
 refine ⟨fun y z e=>?_,fun p hp=>?_⟩
 ·rw [lkI_up] at e
  rw [valueAt_stored hn]
  by_cases q:y = k
  ·subst q
   rw [if_pos rfl] at e
   (refine jS e fun j=>?_;clear e;subst j)
   rw [if_pos rfl]
   exact .inl ⟨v,rfl,hv⟩
  ·rw [if_neg q] at e
   rw [if_neg q]
   exact x.1 y z e
 ·rw [lkI_up]
  rcases mem_stored hp with q | q
  ·rw [if_pos q];rfl
  ·split
   ·rfl
   ·exact x.2 p q
end
end Mine
end
section
set_option maxHeartbeats 4000000
namespace Mine
section
variable {C:SC} {T:Tk} {F:Fm} {ρ ρ':Va} {σ σ':St} {s s':Shared} {A:Around} {env:Env} {ks:Kd} {v:Ve} {E:Value→Shared→Prop} {r:Rc}
theorem ValsAre.mono {ρ ρ':Va} {h h':Heap} (hp:ρ.le ρ') (hk:TK h h') {xs:List (Int×V)} {kvs:List (Int×Value)} (H:ValsAre ρ h xs kvs):ValsAre ρ' h' xs kvs :=
 ⟨fun k x q=>(H.1 k x q).imp (fun h=>x1a2 h fun v p r=>⟨v,p,r.mono hp hk⟩) fun h=>⟨h.1,h.2.mono hp⟩,H.2⟩
theorem attrOf_cur {u:V} {a:Nat} {c:List (Nat×V)}:attrOf T u a { σ with cur:=c } = attrOf T u a σ:=by induction u using V.casesOn <;> rfl
theorem chkP_at {u x:V} (hc:chkP u x = true):∃ (n:Nat) (la lb la' lb':List Bt),x = .tup [.int n,.bv la,.bv lb]∧u = .tup [.int n,.bv la',.bv lb']∧beqBts la la' = true∧beqBts lb lb' = true:=by
 unfold chkP at hc
 refine x3a2 (tup3_at (x:=x) hc :) fun w a b q3q h1=>?_;subst q3q
 refine x3a2 (tup3_at (x:=u) h1 :) fun w' a' b' q3q h2=>?_;subst q3q
 refine x1a2 (widW_at (x:=w) h2 :) fun n q1q h3=>?_;subst q1q
 clear hc h1 h2
 refine x0a2 (andB_at h3 :) fun hw hc=>?_
 refine x0a2 (andB_at hc :) fun ha hb=>?_
 obtain rfl:=isI_at hw
 refine x2a3 (sameB_at ha :) fun la la' q2q q3q ea=>?_;subst q2q;subst q3q
 refine x2a3 (sameB_at hb :) fun lb lb' q2q q3q eb=>?_;subst q2q;subst q3q
 exact ⟨n,la,lb,la',lb',rfl,rfl,ea,eb⟩
theorem three_b {h:Heap} {n:Int} {a b:V} {la lb:List Bt} {v:Value} (hv:IsV ρ h (.tup [.int n,a,b]) v) (ea:bitsOf a = some la) (eb:bitsOf b = some lb) :
  ∃ t tn ma ta mb tb,v = .ref t∧IsTup h t [.int n tn,.int ((ma:Nat):Int) ta,.int ((mb:Nat):Int) tb].toArray∧IsBts ρ.sym la ma∧IsBts ρ.sym lb mb:=by
 refine x4a5 (hv.three :) fun t w x y e ht p0 p1 p2=>?_
 refine x1a1 (p0.inv :) fun tn e0=>?_
 refine x2a2 (bitsOf_ok ea p1 :) fun ma ta e1 q1=>?_
 refine x2a2 (bitsOf_ok eb p2 :) fun mb tb e2 q2=>?_
 rw [e0,e1,e2] at ht
 exact ⟨t,tn,ma,ta,mb,tb,e,ht,q1,q2⟩
theorem set3_ok {P:SP} {c c0:List (Nat×V)} {u x new:V} {k:Int} {κ:KX} {Q:Flow→Shared→Prop} (G:Gr C T) (H:EnvOK C A F env ks v ρ) (R:Rel C F ρ { σ with cur:=c } s) (hks:∀ x∈[("self":Str),"key","place","lo","value","old","new"],lk ks (key x) = some .local)
  (h1:lk c (key "self") = some u) (h2:lk c (key "key") = some (.int k)) (h3:lk c (key "old") = some x) (h4:lk c (key "new") = some new) (h:setK T u k x κ new { σ with cur:=c0 } = true)
  (hQ:∀ (ρ':Va) (σ':St) (s':Shared) (y:V) (vv:Value),κ y { σ' with cur:=c0 } = true→Next C F ρ s.heap ρ' σ' s'→IsV ρ' s'.heap y vv→Q (.ret vv) s') :
  wpAny (model PW C.w) A (execs [setS3 P,setS4 P,setS5 P] env) Q E s:=by
 refine x5a4 (normV_at h :) fun n a b la lb q5q ea eb g2=>?_;subst q5q
 refine x2a3 (storeVals_at g2 :) fun m xs hat hm g3=>?_
 rw [attrOf_cur] at hat
 induction ek:lkI xs k using Option.casesOn with
 | none=>rw [ek] at g3;exact ft' g3
 | some x2 =>
  rw [ek] at g3
  refine x0a2 (ifB_ok g3 :) fun g4 g5=>?_
  refine x0a2 (ifB_ok g4 :) fun hfit hchk=>?_
  refine x0a2 (putK_ok g5 :) fun hz g6=>?_
  refine x5a4 (chkP_at hchk :) fun nn oa ob xa xb q5q q6q ba bb=>?_;subst q5q;subst q6q
  obtain ⟨am,ham,hs,kvs,hd,hv⟩:=R.led m _ hm
  have hnd:(kvs.map (·.1)).Nodup:=by refine x3a6 (id hd :) fun _ _ _ _ _ _ _ _ hnd=>?_;exact hnd
  have fin:∀ (e:Bool) (s2:Shared),Rel C F ρ ({ σ with cur:=c }.put m (.vals (upI xs k (.tup [.int n,.bv la,.bv lb])))) s2→TK s.heap s2.heap→Q (.ret (.bool e)) s2:=by
   intro e s2 R2 tk2
   refine hQ _ (St.mk c (up σ.led m (.vals (upI xs k (.tup [.int n,.bv la,.bv lb])))) σ.nxt (σ.syn + 1) σ.fz) s2 (.sb σ.syn) (.bool e) g6 ⟨le_sym _ (.bool e),tk2,R2.sym (.bool e)⟩ (.sb ?_)
   have:σ.syn = ρ.sym.length:=R.syn
   rw [this];simp
  refine wpAny_execs_cons (wpAny_If (wpAny_isTrue_Compare1 (name_step H R (hks _ (by simp)) h4 (notOdd _ (by simp)) fun vn hvn=>name_step H R (hks _ (by simp)) h3 (notOdd _ (by simp)) fun vo hvo=>?_) rfl))
  refine x6a4 (three_b hvn ea eb :) fun t1 tn1 ma tka mb tkb q6q ht1 p1' p2'=>?_;subst q6q
  refine x6a4 (three_b hvo rfl rfl :) fun t2 tn2 m1 tk1 m2 tk2 q6q ht2 q1 q2=>?_;subst q6q
  refine x1a2 (eq3_at { σ with cur:=c } (n:Int) (ma:Int) (mb:Int) (nn:Int) (m1:Int) (m2:Int) :) fun e he hee=>?_
  have hunits:A.units + 6 < cLine:=by have:=H.units;have:=H.dep;unfold cLine;lia
  have hnew:IsV ρ s.heap (.tup [.int n,.bv la,.bv lb]) (.ref t1):=.tup ht1 (.cons .int (.cons (.bv p1') (.cons (.bv p2') .nil)))
  refine cmpV_ok hunits he R (.tup ht1 (.cons .int (.cons .int (.cons .int .nil)))) (.tup ht2 (.cons .int (.cons .int (.cons .int .nil)))) fun t=>wpAny_truthy_bool ?_
  induction e using Bool.casesOn with
  | true =>
   refine x0a3 (hee rfl :) fun e1 e2 e3=>?_
   obtain rfl:n = nn:=Int.ofNat.inj e1
   obtain rfl:ma = m1:=Int.ofNat.inj e2
   obtain rfl:mb = m2:=Int.ofNat.inj e3
   refine wpAny_execs_cons ?_
   rw [arm_exec_Return]
   refine wpAny_bind (wpAny_standAt ?_)
   show wpAny _ _ (eval (.Constant (.bool false) 0 P.p19) env >>= fun x=>pure (Flow.ret x)) _ _ _
   refine wpAny_bind (wpAny_Constant_bool (wpAny_pure ?_))
   refine fin false _ ((R.toks t).view ham ⟨hs,kvs,hd,hv.view ek ?_ ?_⟩) (TK.refl _)
   ·intro v0 hv0
    refine x6a4 (three_b hv0 rfl rfl :) fun t3 _ _ _ _ _ q6q ht3 r1 r2=>?_;subst q6q
    have z1:=beqBts_ok ba q1 r1
    have z2:=beqBts_ok bb q2 r2
    subst z1 z2
    exact .tup ht3 (.cons .int (.cons (.bv p1') (.cons (.bv p2') .nil)))
   ·rintro ⟨w',la',lb',e0,z1,z2⟩
    cases e0
    have y1:=beqBts_ok ba q1 z1
    have y2:=beqBts_ok bb q2 z2
    subst y1
    exact ⟨n,la,lb,rfl,p1',y2▸p2'⟩
  | false =>
   have R1:=R.toks t
   refine wpAny_execs_nil ?_
   refine wpAny_execs_cons ?_
   refine x0a2 (okVal_swap (env:=env) (n:=P.p27.line) (t:=.Subscript (.Attribute (.Name "self" P.p22) "values" P.p23) (.Name "key" P.p24) P.p25) (e:=.Name "new" P.p26) rfl :) fun s1 s2=>?_
   refine wpAny_Assign_stores (name_step H R1 (hks _ (by simp)) h4 (notOdd _ (by simp)) fun vn2 hvn2=>?_) s1 s2
   have hme:(assignEach [PySem.Expr.Subscript (.Attribute (.Name "self" P.p22) "values" P.p23) (.Name "key" P.p24) P.p25] env).map (·.2) = [assign (.Subscript (.Attribute (.Name "self" P.p22) "values" P.p23) (.Name "key" P.p24) P.p25) env]:=rfl
   rw [hme,assignAll_one,arm_assign_Subscript]
   refine wpAny_bind (wpAny_holding ?_)
   rw [arm_eval_Attribute]
   have hab:attributeBase (.Name "self" P.p22) "values" env (eval (.Name "self" P.p22) env) = eval (.Name "self" P.p22) env:=rfl
   rw [hab]
   refine wpAny_bind (name_step H R1 (hks _ (by simp)) h1 (notOdd _ (by simp)) fun sv hsv=>?_)
   have hat2:attrOf T u (key "values") { σ with cur:=c } = some (.loc m):=by rw [attrOf_cur,← G.nValues];exact hat
   refine wpAny_bind (wpAny_standAt (wpAny_bind (wpAny_holding (getAttr_ok G hat2 R1 hsv fun dv tk hdv=>?_))))
   refine wpAny_bind (wpAny_letTemporaryGo (wpAny_pure ?_))
   have R2:=R1.toks tk
   refine wpAny_bind (wpAny_holding (name_step H R2 (hks _ (by simp)) h2 (notOdd _ (by simp)) fun kv hkv=>?_))
   refine x1a2 (hdv.inv :) fun dd q1q hdd=>?_;subst q1q
   obtain rfl:=Option.some.inj (ham.symm.trans hdd)
   refine x1a1 (hkv.inv :) fun tkk q1q=>?_;subst q1q
   have hlen:kvs.length≤sizeLine:=by
    have:=hv.len hnd
    have hf:=fitsN_ok hfit
    rw [len_eq] at hf
    exact fits_line (Nat.le_trans this hf)
   refine wpAny_bind (wpAny_standAt (wpAny_bind (wpAny_holding (wpAny_setItem_pairs (intKind_is _ _ k tkk) hd (fun h' hd' hs'=>?_) hlen))))
   refine x3a4 (id hd :) fun od es ep e1 hx dd2 _=>?_
   have nt:od.cls≠.type "tuple":=by
    refine x1a2 (hd.mapOf.typeIs :) fun _ hT hc=>?_
    rw [e1] at hT;(refine jS hT fun j=>?_;clear hT;subst j)
    rw [hc];decide
   refine x3a2 (id hd' :) fun od' es' ep' e' _=>?_
   refine x6a4 (three_b hvn2 ea eb :) fun t9 _ na tkna nb tknb q6q ht9 u1' u2'=>?_;subst q6q
   have hnew2:∀ h2,TK s.heap h2→IsV ρ h2 (.tup [.int n,.bv la,.bv lb]) (.ref t9):=fun h2 tk=>.tup (tk.tup _ _ ht9) (.cons .int (.cons (.bv u1') (.cons (.bv u2') .nil)))
   have N:=R2.turned (o':=.vals (upI xs k (.tup [.int n,.bv la,.bv lb]))) (h':=h') (tk + 1) ham hz e1 nt (fun vs q t z=>by rw [dd2] at z;cases z) hs' ⟨_,e'⟩ fun tk=>⟨hs,_,hd',(ValsAre.mono (Va.le.refl _) tk hv).stored hnd (hnew2 _ tk)⟩
   refine wpAny_release ?_
   refine wpAny_execs_cons ?_
   unfold setS5
   rw [arm_exec_Return]
   refine wpAny_bind (wpAny_standAt ?_)
   show wpAny _ _ (eval (.Constant (.bool true) 0 P.p28) env >>= fun x=>pure (Flow.ret x)) _ _ _
   refine wpAny_bind (wpAny_Constant_bool (wpAny_pure ?_))
   exact fin true _ N.rel N.tk
end
end Mine
end
section
set_option maxHeartbeats 4000000
namespace Mine
structure StOK (C:SC) (T:Tk):Prop where
 keep:∀ x f,getFn T (key x) = some f→keepIn C.K (.ref f) = true
 def_:∀ f,getFn T (key "set_bits") = some f→∃ fn fo fd P rest,FnOK C T fn f fo fd (setIf P :: rest)∧fn.params = [key "self",key "key",key "place",key "lo",key "value"]∧fn.dflts = []∧noCells fd.scope.names = true ∧
  (∀ x∈[("self":Str),"key","place","lo","value","old","new"],fd.scope.names.lookup x = some .local)∧fd.scope.names.lookup ("put_slice":Str) = some .globalImplicit∧P.p5.endLine = P.p7.line
 put:T.tx.glob.get (key "put_slice") = some T.put
section
variable {C:SC} {T:Tk} {F:Fm} {ρ ρ':Va} {σ σ':St} {s s':Shared} {A:Around} {env:Env} {ks:Kd} {v:Ve} {E:Value→Shared→Prop} {r:Rc}
theorem setBits_ok (G:Gr C T) (S:StOK C T) (hL:LeaveOK C) (hr:RcOK C r) (hrf:∀ F s,RcOK (frz C F s) r) (hra:RcAny r) {f d m:Nat} {u lo w:V} {k:Int} {xs:List (Int×V)} {κ ε:KX} {Q E:Value→Shared→Prop} {args:List Value} (hf:getFn T (key "set_bits") = some f)
  (hst:isStV T u σ = true) (hat:attrOf T u T.kValues σ = some (.loc m)) (hm:σ.at m = some (.vals xs)) (h:set4 T r d u σ κ ε m xs [.int k,.none,lo,w] = true)
  (Ar:Arnd A F d) (R:Rel C F ρ σ s) (hu:IsVs ρ s.heap [u,.int k,.none,lo,w] args) (GQ:GoQ C F ρ s.heap κ Q) (GE:GoE C F ρ s.heap ε E):codeAny (model PW C.w) A (.call (.ref f) ⟨args,[]⟩) (CallR Q E) s:=by
 refine x5a7 (S.def_ f hf :) fun fn fo fd P rest KF hpar hdf hnc hloc hput hline=>?_
 refine x0a3 (okF_ok KF.scope :) fun hk hgen hco=>?_
 refine x0a2 (ifB_ok h :) fun hl h2=>?_
 refine x0a2 (ifB_ok hl :) fun hd1 hl=>?_
 refine x0a2 (ifB_ok hl :) fun hd2 hl=>?_
 have hd1:=Nat.le_of_ble_eq_true hd1
 have hd2:=Nat.le_of_ble_eq_true hd2
 induction eg:getFn T T.kGet using Option.casesOn with
 | none=>rw [eg] at h2;exact ft' h2
 | some g =>
 rw [eg] at h2
 have h3:getK g r (d + 1) u k σ m xs (fun old=>r (d + 1) T.put [old,lo,w] σ (setK T u k old κ) ε) = true:=h2
 have hroom:A.depth < recursionLimit:=by
  have:=Ar.depth
  have e1:claimMargin = 300:=rfl
  have e2:recursionLimit = 1000:=rfl
  lia
 have hb:bindP fn.params fn.dflts [u,.int k,.none,lo,w] = some [(key "self",u),(key "key",.int k),(key "place",.none),(key "lo",lo),(key "value",w)]:=by rw [hpar,hdf];rfl
 refine codeAny_call_function hroom (G.Xs R _ _ KF.at_) KF.data hco hgen KF.bodyE (R.code G KF.code) ?_
 refine enter_ok (κ:=fun cs σ1=>asks (fun _ σ2=>cs = []∧σ2 = σ) .none σ1) G KF hb hu R ?_ fun env cs σ1 ρ1 s1 hκ he R1 hp htk hmc=>?_
 ·rw [KF.kinds,kindsOf_map,lay_none hnc];exact asks_to ⟨rfl,rfl⟩
 refine x0a2 (asks_of hκ :) fun q0q q1q=>?_;subst q0q;subst q1q
 refine ⟨G.lims R1,codeAny_func ?_⟩
 have hqual:env.scope = fd.scope:=by rw [he]
 have H:EnvOK C (A.deeper env) (Mine.inner F σ1 env s.heap.objs.size) env (kindsOf fd.scope) ⟨[],d + 1⟩ ρ1:={
  glob:=by rw [he];exact ⟨rfl,rfl⟩
  loc:=by rw [he];rfl
  kind:=by rw [hqual];exact hk
  ks:=by rw [hqual]
  cells:=hmc
  frames:=by show A.frames.map _ = _;rw [Ar.frames];rfl
  hand:=Ar.hand
  depth:=by show A.depth + 1≤2 + claimMargin + 3 * (d + 1);have:=Ar.depth;lia
  units:=by show A.units + 3≤20 + 20 * (d + 1);have:=Ar.units;lia
  dep:=by show d + 1≤60;lia
  law:=fun q=>by have:d + 1 = 1:=q;lia }
 have T1:Top1 (Mine.inner F σ1 env s.heap.objs.size) env:=⟨⟨F.fs,rfl⟩,by rw [he];rfl⟩
 generalize hc0:locals fn.kinds [(key "self",u),(key "key",.int k),(key "place",.none),(key "lo",lo),(key "value",w)] = c0 at R1
 have hks:∀ x∈[("self":Str),"key","place","lo","value","old","new"],lk (kindsOf fd.scope) (key x) = some .local:=fun x hx=>by rw [lk_kindsOf];exact hloc x hx
 have lc:∀ {x:Str} {z:V},x∈[("self":Str),"key","place","lo","value","old","new"]→lk [(key "self",u),(key "key",.int k),(key "place",.none),(key "lo",lo),(key "value",w)] (key x) = some z→lk c0 (key x) = some z:=by
  intro x z hx hz
  rw [← hc0,lk_locals,KF.kinds,hks x hx]
  exact hz
 have k2:=hks
 have main:wpAny (model PW C.w) (A.deeper env) (exec (setIf P) env) (fun fl s'=>∃ v,fl = .ret v∧Q v s') (fun e s'=>wpAny (model PW C.w) (A.deeper env) (leaving env e) (fun _ s''=>CallR Q E (.error e) s'') (fun e' s''=>CallR Q E (.error e') s'') s') s1:=by
  have hunits:(A.deeper env).units + 6 < cLine:=by have:=H.units;have:=H.dep;unfold cLine;lia
  refine wpAny_If (wpAny_isTrue_Compare1 (name_step H R1 (hks _ (by simp)) (lc (by simp) rfl) (notOdd _ (by simp)) fun vv hv=>?_) rfl)
  cases hv
  refine wpAny_Constant_none ?_
  refine cmpV_ok (c:=true) hunits rfl R1 .none .none fun t=>wpAny_truthy_bool ?_
  have Rt:=R1.toks t
  refine wpAny_execs_cons (set1_ok (σ:=σ1) (c:=c0) (κ:=fun old=>r (d + 1) T.put [old,lo,w] σ1 (setK T u k old κ) ε) G hr hrf hra H Rt hline hks (lc (by simp) rfl) (lc (by simp) rfl) hst hat hm hl eg h3 ?_)
  intro ρ2 s2 x hx _ N2
  have lc2:∀ {y:Str} {z:V},y∈[("self":Str),"key","place","lo","value","old","new"]→key ("old":Str)≠key y→lk [(key "self",u),(key "key",.int k),(key "place",.none),(key "lo",lo),(key "value",w)] (key y) = some z→lk (up c0 (key "old") x) (key y) = some z:=by
   intro y z hy hne hz
   rw [lk_up,if_neg (Ne.symm hne)]
   exact lc hy hz
  have dk:∀ y∈[("self":Str),"key","lo","value","new"],key ("old":Str)≠key y:=by decide +kernel
  have dn:∀ y∈[("self":Str),"key","old"],key ("new":Str)≠key y:=by decide +kernel
  refine wpAny_execs_cons (set2_ok (σ:=σ1) (c:=up c0 (key "old") x) (κ:=setK T u k x κ) (ε:=ε) G hr hra (H.mono N2.pre) N2.rel hks (by rw [lk_kindsOf];exact hput) S.put (by rw [lk_up,if_pos rfl]) (lc2 (by simp) (dk _ (by simp)) rfl) (lc2 (by simp) (dk _ (by simp)) rfl) hx ?_ ?_)
  ·intro ρ3 σ3 s3 y hy N3
   have N23:=(Next.mk (Va.le.refl _) (TK.refl s1.heap) Rt:Next C _ ρ1 s1.heap ρ1 _ { s1 with toks:=t }).trans (N2.trans N3)
   refine set3_ok (σ:=σ3) (c:=up (up c0 (key "old") x) (key "new") y) (c0:=σ1.cur) (x:=x) (new:=y) (κ:=κ) G ((H.mono N2.pre).mono N3.pre) N3.rel hks ?_ ?_ ?_ ?_ hy ?_
   ·rw [lk_up,if_neg (Ne.symm (dn _ (by simp)))];exact lc2 (by simp) (dk _ (by simp)) rfl
   ·rw [lk_up,if_neg (Ne.symm (dn _ (by simp)))];exact lc2 (by simp) (dk _ (by simp)) rfl
   ·rw [lk_up,if_neg (Ne.symm (dn _ (by simp))),lk_up,if_pos rfl]
   ·rw [lk_up,if_pos rfl]
   ·intro ρ4 σ4 s4 z vv hz N4 hvv
    exact ⟨vv,rfl,GQ _ _ _ _ _ hz (Next.leave R hp htk (N23.trans N4)) hvv⟩
  ·intro ρ3 σ3 s3 u3 e hε N3 hx3
   refine hL (A.deeper env) (Mine.inner F σ1 env s.heap.objs.size) env ρ3 σ3 s3 u3 e _ _ H.frames T1 N3.rel hx3 fun s4 tk4 R4 hx4=>?_
   have N34:=(Next.mk (Va.le.refl _) (TK.refl s1.heap) Rt:Next C _ ρ1 s1.heap ρ1 _ { s1 with toks:=t }).trans (N2.trans ⟨N3.pre,N3.tk.trans tk4,R4⟩)
   exact GE _ _ _ _ _ hε (Next.leave R hp htk N34) (hx4 F rfl rfl rfl)
 refine wpAny_execs_cons (wpAny_mono main (fun fl s' ⟨v,e,q⟩=>?_) fun _ _ x=>x)
 subst e
 exact q
theorem set4_at {d m:Nat} {u:V} {κ ε:KX} {xs:List (Int×V)} {vs:List V} (h:set4 T r d u σ κ ε m xs vs = true):∃ k lo w,vs = [.int k,.none,lo,w]:=by
 induction vs using List.casesOn with
 | nil=>exact ft' h
 | cons x t =>
 induction x using V.casesOn with
 | int k =>
  induction t using List.casesOn with
  | nil=>exact ft' h
  | cons y t =>
  induction y using V.casesOn with
  | none =>
   induction t using List.casesOn with
   | nil=>exact ft' h
   | cons lo t =>
   induction t using List.casesOn with
   | nil=>exact ft' h
   | cons w t =>
   induction t using List.casesOn with
   | nil=>exact ⟨k,lo,w,rfl⟩
   | cons _ _=>exact ft' h
  | _=>exact ft' h
 | _=>exact ft' h
theorem storeOK_of (G:Gr C T) (S:StOK C T) (hL:LeaveOK C) (hr:RcOK C r) (hrf:∀ F s,RcOK (frz C F s) r) (hra:RcAny r):StoreOK C T r:=by
 intro f x d u vs σ κ ε h hf A F ρ s Q E uv args Ar R hu hvs GQ GE
 refine x0a2 (ifB_ok h :) fun hst h2=>?_
 refine x2a3 (storeVals_at h2 :) fun m xs hat hm h3=>?_
 have hkeep:=keeps_K (M:=model PW C.w) (S.keep x f hf) _ (G.Xs R)
 induction eb:Nat.beq (key x) T.kGet using Bool.casesOn with
 | true =>
  rw [eb] at h3
  have h4:one vs (get1 f r d u σ κ m xs) = true:=h3
  induction hvs using IsVs.casesOn with
  | nil=>exact ft' h4
  | @cons y yv us ws hy hr0 =>
   induction hr0 using IsVs.casesOn with
   | cons _ _=>exact ft' h4
   | nil =>
    induction hy using IsV.casesOn with
    | @int k kt =>
     have h5:getK f r d u k σ m xs (fun x=>κ x σ) = true:=h4
     have key:=getK_ok (kt:=kt) (c:=σ.cur) (A:=A) (Q:=Q) (E:=E) h5 hm hrf hra Ar R hu fun s' x v hκ _ N hv=>GQ _ _ _ _ _ hκ N hv
     exact ⟨key.1,key.2.1⟩
    | _=>exact ft' h4
 | false =>
  rw [eb] at h3
  refine x0a2 (ifB_ok (b:=Nat.beq (key x) T.kSet) h3 :) fun hs h4=>?_
  obtain rfl:=kBeq hs G.nSet
  have h5:=h4
  refine x3a1 (set4_at h5 :) fun k lo w q3q=>?_;subst q3q
  exact ⟨hkeep,callR_wp (setBits_ok G S hL hr hrf hra hf hst hat hm h4 Ar R (.cons hu hvs) GQ GE)⟩
end
end Mine
end
section
set_option maxHeartbeats 4000000
namespace Mine
section
variable {C:SC} {T:Tk} {F:Fm} {s:Shared}
theorem FnOK.re {fn:Fn} {a:Addr} {fo:Obj} {fd:FuncData} {body:List PySem.Stmt} (K:FnOK C T fn a fo fd body):FnOK (frz C F s) T fn a fo fd body :=
 ⟨K.at_,K.data,K.bodyE,K.glob,K.blt,K.clo,K.scope,K.code,K.args,K.nodup,K.pars,K.dfl,K.dfn,K.kinds,K.cellsNd,K.parK,K.cellK,K.bodyS⟩
noncomputable def Gr.re (G:Gr C T):Gr (frz C F s) T :=
 { cls:=G.cls,nValues:=G.nValues,nGet:=G.nGet,nSet:=G.nSet,nAppend:=G.nAppend,nPop:=G.nPop,nKind:=G.nKind,mg:=G.mg,mb:=G.mb,X:=G.X,noP:=G.noP,g:=G.g,gP:=G.gP,b:=G.b,bP:=G.bP,lim:=G.lim,bAt:=G.bAt,pmE:=G.pmE,limP:=G.limP,glob:=G.glob }
noncomputable def Gd.re (D:Gd C T):Gd (frz C F s) T where
 gr:=D.gr.re
 str:=D.str
 exc:=D.exc
 kept:=⟨x12a7 D.kept.1 fun fn fo fd p1 p2 p3 p4 p5 p6 p7 p8 p9 K r1 r2 r3 r4 r5 r6=>⟨fn,fo,fd,p1,p2,p3,p4,p5,p6,p7,p8,p9,K.re,r1,r2,r3,r4,r5,r6⟩,D.kept.2,D.kept.3,D.kept.4⟩
 keptK:=D.keptK
 next:=⟨D.next.keep,x13a6 D.next.def_ fun fn fo fd p1 p2 p3 p4 p5 p6 p7 p8 p9 k K r1 r2 r3 r4 r5=>⟨fn,fo,fd,p1,p2,p3,p4,p5,p6,p7,p8,p9,k,K.re,r1,r2,r3,r4,r5⟩⟩
 fn:=fun a fn e=>(D.fn a fn e).imp id fun h=>h.imp fun _ h=>h.imp fun _ h=>h.imp fun _ K=>K.re
 cls:=D.cls
theorem StOK.re (S:StOK C T):StOK (frz C F s) T where
 keep:=S.keep
 def_:=fun f hf=>let ⟨fn,fo,fd,P,rest,K,r⟩:=S.def_ f hf;⟨fn,fo,fd,P,rest,K.re,r⟩
 put:=S.put
theorem rc_all:∀ (n:Nat) (C:SC) (_:Gd C T) (_:StOK C T),RcOK C (runC T n)
 | 0,_,_,_=>fun _ _ _ _ _ _ h=>(Bool.false_ne_true h).elim
 | n + 1,C,D,S=>stepC_ok D (rc_all n C D S) (storeOK_of D.gr S leave_ok (rc_all n C D S) (fun _ _=>rc_all n _ D.re S.re) (rcAny_run n))
theorem store_all (n:Nat) (D:Gd C T) (S:StOK C T):StoreOK C T (runC T n):=storeOK_of D.gr S leave_ok (rc_all n C D S) (fun _ _=>rc_all n _ D.re S.re) (rcAny_run n)
theorem run_ok (n:Nat) (D:Gd C T) (S:StOK C T) (ks:Kd) (l:List PySem.Stmt):WS C ks (fun v σ κ ε=>css (compS T ks 40) l (runC T n) v σ κ ε) (execs l) :=
 css_ok (compS_ok D.gr D.next D.exc (rc_all n C D S) (store_all n D S) ks 40) l
theorem runX_ok (n:Nat) (D:Gd C T) (S:StOK C T) (ks:Kd) (e:PySem.Expr):WC C ks (runC T n) e (compX T 40 ks e):=(compX_ok D.gr D.next (rc_all n C D S) (store_all n D S) 40 ks).ok e
end
end Mine
end
section
set_option maxHeartbeats 4000000
namespace Mine
theorem andB_ok {a b:Bool} (h:andB a b = true):a = true∧b = true:=by induction a using Bool.casesOn <;> first | exact ⟨rfl,h⟩ | exact ft' h
theorem sameBt_ok {x y:Bt} (h:sameBt x y = true):x = y:=by
 induction x using Bt.casesOn <;> induction y using Bt.casesOn <;> first | rfl | (exact ft' h;done) | skip
 refine x0a2 (andB_ok h :) fun a b=>?_
 rw [Nat.eq_of_beq_eq_true a,Nat.eq_of_beq_eq_true b]
theorem all2_ok {α:Type} {f:α→α→Bool} (hf:∀ {x y},f x y = true→x = y):∀ {l m:List α},all2 f l m = true→l = m:=by
 intro l
 induction l with
 | nil=>intro m h;induction m using List.casesOn with
  | nil=>rfl
  | cons _ _=>exact ft' h
 | cons x l ih=>intro m h;induction m using List.casesOn with
  | nil=>exact ft' h
  | cons y m =>
   refine x0a2 (andB_ok (show andB (f x y) (all2 f l m) = true from h) :) fun a b=>?_
   rw [hf a,ih b]
set_option tactic.hygienic true in
theorem sameS_ok {f:V→V→Bool} (hf:∀ {x y},f x y = true→x = y) {x y:V} (h:sameS f x y = true):x = y:=by
 induction x using V.casesOn <;> induction y using V.casesOn <;> first | rfl | (exact ft' h;done) | skip
 ·rename_i a b;induction a using Bool.casesOn <;> induction b using Bool.casesOn <;> first | rfl | exact ft' h
 ·rename_i a b
  have:decide (a = b) = true:=(beqI_eq a b).symm.trans h
  rw [of_decide_eq_true this]
 ·rw [key_inj (Nat.eq_of_beq_eq_true h)]
 ·rw [Nat.eq_of_beq_eq_true h]
 ·rw [all2_ok hf h]
 ·rw [Nat.eq_of_beq_eq_true h]
 ·rw [all2_ok sameBt_ok h]
 ·rw [Nat.eq_of_beq_eq_true h]
 ·rw [Nat.eq_of_beq_eq_true h]
theorem sameVn_ok:∀ {n:Nat} {x y:V},(Nat.rec (fun _ _=>false) (fun _ ih=>sameS ih) n:V→V→Bool) x y = true→x = y
 | 0,_,_,h=>(Bool.false_ne_true h).elim
 | n + 1,_,_,h=>sameS_ok (fun q=>sameVn_ok (n:=n) q) h
theorem sameV_ok {x y:V} (h:sameV x y = true):x = y:=sameVn_ok (n:=5) h
theorem sameP_ok {p q:Nat×V} (h:sameP p q = true):p = q:=by
 refine x0a2 (andB_ok h :) fun a b=>?_
 obtain ⟨p1,p2⟩:=p
 obtain ⟨q1,q2⟩:=q
 rw [show p1 = q1 from Nat.eq_of_beq_eq_true a,show p2 = q2 from sameV_ok b]
theorem sameO'_ok {x:Option V} {u:V} (h:sameO' x u = true):x = some u:=by
 induction x using Option.casesOn with
 | none=>exact ft' h
 | some w=>rw [show u = w from sameV_ok h]
theorem sameC_ok:∀ {τ m:List (Nat×V)},sameC τ m = true→∀ x u,lk τ x = some u→lk m x = some u:=by
 intro lq
 induction lq with
 | nil =>
  intro _ _ x u e
  exact nS' e
 | cons hq τ ih =>
  obtain ⟨y,w⟩:=hq
  intro m h x u e
  refine x0a2 (andB_ok (show andB (sameO' (lk m y) w) (sameC τ m) = true from h) :) fun a b=>?_
  rw [lk_cons] at e
  by_cases q:y = x
  ·rw [if_pos q] at e;(refine jS e fun j=>?_;clear e;subst j);rw [← q];exact sameO'_ok a
  ·rw [if_neg q] at e;exact ih b x u e
theorem weakL_ok:∀ {τ m:List (Nat×O)},weakL τ m = true→∀ n t,lk τ n = some t→∃ o,lk m n = some o∧weakO t o = true:=by
 intro lq
 induction lq with
 | nil =>
  intro _ _ x u e
  exact nS' e
 | cons hq τ ih =>
  obtain ⟨y,w⟩:=hq
  intro m h x u e
  refine x0a2 (andB_ok (show andB (weakA w (lk m y)) (weakL τ m) = true from h) :) fun a b=>?_
  rw [lk_cons] at e
  by_cases q:y = x
  ·rw [if_pos q] at e;(refine jS e fun j=>?_;clear e;subst j);rw [← q]
   induction em:lk m y using Option.casesOn with
   | none=>rw [em] at a;exact ft' a
   | some o=>rw [em] at a;exact ⟨o,rfl,a⟩
  ·rw [if_neg q] at e;exact ih b x u e
section
variable {C:SC} {ρ ρ':Va} {h h0:Heap} {a:Addr}
theorem IsBts.fits {S:List Value}:∀ {w:Nat} {l:List Bt} {m:Nat},allZ (l.drop w) = true→IsBts S l m→m < 2 ^ w:=by
 intro w
 induction w with
 | zero=>intro l m h x;rw [x.zero h];exact Nat.two_pow_pos 0
 | succ w ih =>
  intro l m h x
  induction x using IsBts.casesOn with
  | nil=>exact Nat.two_pow_pos _
  | cons b r =>
  have h1:=b.lt
  have h2:=ih h r
  rw [Nat.pow_succ];lia
theorem fitsB_ok {w:Nat} {x:V} {v:Value} (h1:fitsB w x = true) (h2:IsV ρ h x v):∃ (n:Nat) (t:Tok),v = .int (n:Int) t∧n < 2 ^ w:=by
 induction h2 using IsV.casesOn with
 | @bv l m t hb =>
  have hl:allZ (dropL w l) = true:=h1
  rw [dropL_eq] at hl
  exact ⟨m,t,rfl,hb.fits hl⟩
 | @int i t =>
  induction i using Int.casesOn with
  | ofNat n=>exact ⟨n,t,rfl,Nat.le_of_ble_eq_true (show Nat.ble (n + 1) (2 ^ w) = true from h1)⟩
  | negSucc n=>exact ft' h1
 | _=>exact ft' h1
theorem fits4_ok:∀ {xs:List V} {vs:List Value},fits4 xs = true→IsVs ρ h xs vs→∀ v∈vs,∃ (n:Nat) (t:Tok),v = .int (n:Int) t∧n < 4:=by
 intro xs
 induction xs with
 | nil=>intro vs _ h v hv;rw [show vs = [] from h.inv] at hv;exact (nomatch hv)
 | cons x xs ih =>
  intro vs h1 h v hv
  refine x0a2 (andB_ok (show andB (fitsB 2 x) (fits4 xs) = true from h1) :) fun p q=>?_
  refine x2a3 (h.inv :) fun w ws e a r=>?_
  rw [e] at hv
  rcases List.mem_cons.mp hv with z | hv
  ·rw [z];exact fitsB_ok p a
  ·exact ih q r v hv
theorem tup3_ok {x:V} {f:V→V→V→Bool} (h1:tup3 x f = true):∃ a b c,x = .tup [a,b,c]∧f a b c = true:=by
 exact tup3_at h1
theorem isI_ok {x:V} {i:Int} (h1:isI x i = true):x = .int i:=by
 exact isI_at h1
theorem lkW_eq {k:Int}:∀ {ws:List (Int×Nat)},lkW ws k = ws.lookup k:=by
 intro lq
 induction lq with
 | nil =>
  exact rfl
 | cons hq r ih =>
  obtain ⟨y,w⟩:=hq
  show (Bool.rec (lkW r k) (some w) (beqI y k):Option Nat) = _
  rw [beqI_eq,List.lookup_cons,ih]
  by_cases q:y = k
  ·subst q;simp
  ·have:(k == y) = false:=beq_eq_false_iff_ne.mpr fun z=>q z.symm
   rw [this,decide_eq_false q]
theorem lkI_closeV {ws:List (Int×Nat)} {k:Int} {x:V}:∀ {xs:List (Int×V)},closeV ws xs = true→lkI xs k = some x→fitsW (lkW ws k) x = true:=by
 intro lq
 induction lq with
 | nil =>
  intro _ e
  exact nS' e
 | cons hq r ih =>
  obtain ⟨y,u⟩:=hq
  intro h1 e
  refine x0a2 (andB_ok (show andB (fitsW (lkW ws y) u) (closeV ws r) = true from h1) :) fun p q=>?_
  rw [lkI_cons] at e
  by_cases z:y = k
  ·rw [if_pos z] at e;(refine jS e fun j=>?_;clear e;subst j);rw [← z];exact p
  ·rw [if_neg z] at e;exact ih q e
theorem fitsW_ok {w:Option Nat} {x:V} {v:Value} (h1:fitsW w x = true) (h2:IsV ρ h x v):∃ (w' n m:Nat) (t:Addr) (u1 u2 u3:Tok),w = some w'∧v = .ref t∧IsTup h t #[.int (w':Int) u1,.int (n:Int) u2,.int (m:Int) u3]∧n < 2 ^ w'∧m < 2 ^ w':=by
 induction w using Option.casesOn with
 | none=>exact ft' h1
 | some w =>
  refine x3a2 (tup3_ok h1 :) fun x1 x2 x3 q3q h3=>?_;subst q3q
  refine x0a2 (andB_ok h3 :) fun g1 g2=>?_
  refine x0a2 (andB_ok g2 :) fun g2 g3=>?_
  obtain rfl:=isI_ok g1
  refine x4a5 (h2.three :) fun t va vb vc ev ht a1 a2 a3=>?_
  refine x1a1 (a1.inv :) fun u1 e1=>?_
  refine x2a2 (fitsB_ok g2 a2 :) fun n u2 e2 q2=>?_
  refine x2a2 (fitsB_ok g3 a3 :) fun m u3 e3 q3=>?_
  rw [e1,e2,e3] at ht
  exact ⟨w,n,m,t,u1,u2,u3,rfl,ev,ht,q2,q3⟩
theorem stv_of_vals {ws:List (Int×Nat)} {xs:List (Int×V)} (h1:closeV ws xs = true) (h2:IsO C ρ h a (.vals xs)):IsO C ρ' h a (.stv ws):=by
 obtain ⟨n,kvs,d,⟨H1,H2⟩⟩:=h2
 refine ⟨n,kvs,d,fun k v e=>?_⟩
 have hm:∃ p∈kvs,p.1 = k:=by
  unfold valueAt at e
  induction q:kvs.find? fun kv=>decide (kv.1 = k) using Option.casesOn with
  | none=>rw [q] at e;exact nS' e
  | some p=>exact ⟨p,List.mem_of_find?_eq_some q,by simpa using List.find?_some q⟩
 refine x1a2 hm fun p hp q2q=>?_;clear hm;subst q2q
 have:=H2 p hp
 induction q:lkI xs p.1 using Option.casesOn with
 | none=>rw [q] at this;exact ft' this
 | some x =>
  rcases H1 _ _ q with ⟨v',e1,e2⟩ | ⟨e1,_⟩
  ·rw [e] at e1;(refine jS e1 fun j=>?_;clear e1;subst j)
   refine x7a2 (fitsW_ok (lkI_closeV h1 q) e2 :) fun w' n m t u1 u2 u3 g1 g2=>?_
   rw [lkW_eq] at g1
   exact ⟨w',n,m,t,u1,u2,u3,g1,g2⟩
  ·rw [e] at e1;exact sN' e1
theorem stv_of_edict {ws:List (Int×Nat)} (h2:IsO C ρ h a .edict):IsO C ρ' h a (.stv ws):=⟨h2.1,[],h2.2.2,fun k v e=>by exact nS' e⟩
theorem IsKS.down (hp:ρ.le ρ'):∀ {xs:List (Nat×V)} {k0 k:List (Str×Value)},IsKS ρ h0 xs k0→IsKS ρ' h xs k→IsKS ρ h xs k:=by
 intro xs k0 k p
 induction p generalizing k with
 | nil=>intro q;cases q;exact .nil
 | cons _ a0 _ ih =>
  intro q
  cases q with
  | cons e a r=>exact .cons e (IsV.down hp a0 a) (ih r)
theorem pre_eq {α:Type} {l m:List α} (hp:l <+: m) {n:Nat} {x y:α} (h1:l[n]? = some x) (h2:m[n]? = some y):l[n]? = some y:=by
 have:=getpre hp h1
 rw [h2] at this;(refine jS this fun j=>?_;clear this;subst j);exact h1
noncomputable def ClV (ρ:Va) (u:V):Prop:=∃ h0 v0,IsV ρ h0 u v0
noncomputable def ClO (ρ:Va):O→Prop
 | .cell v=>∀ x,v = some x→ClV ρ x
 | .list xs=>∃ h0 vs,IsVs ρ h0 xs vs
 | .sdict xs=>∃ h0 kvs,IsKS ρ h0 xs kvs
 | .inst _ d=>∃ a,ρ.adr[d]? = some a
 | .attrs xs=>∀ y u,lk xs (key y) = some u→ClV ρ u
 | _=>True
theorem IsO.cl {t:O} (h1:IsO C ρ h a t):ClO ρ t:=by
 induction t using O.casesOn with
 | cell v=>refine x1a2 h1 fun vo _ H=>?_;clear h1;exact fun x e=>x1a2 (H x e) fun vv _ i=>⟨_,vv,i⟩
 | list xs=>refine x1a2 h1 fun vs _ i=>?_;clear h1;exact ⟨_,vs,i⟩
 | sdict xs=>obtain ⟨_,kvs,_,i⟩:=h1;exact ⟨_,kvs,i⟩
 | inst c d=>refine x2a2 h1 fun _ dx e _=>?_;clear h1;exact ⟨dx,e⟩
 | attrs xs=>refine x4a7 h1 fun _ _ _ mm _ _ _ _ _ _ H=>?_;clear h1;exact fun y u e=>x1a2 (H.some e) fun vv _ i=>⟨_,vv,i⟩
 | _=>exact trivial
theorem weakO_ok {t o:O} (hw:weakO t o = true) (hp:ρ.le ρ') (h1:ClO ρ t) (h2:IsO C ρ' h a o):IsO C ρ h a t:=by
 induction t using O.casesOn with
 | cell v =>
  induction o using O.casesOn with
  | cell v' =>
   refine x1a2 h2 fun vo hc H=>?_;clear h2
   refine ⟨vo,hc,fun x e=>?_⟩
   subst e
   have:=sameO'_ok hw
   subst this
   refine x1a2 (H x rfl :) fun vv e1 e2=>?_
   refine x2a1 (h1 x rfl :) fun _ vv0 e3=>?_
   exact ⟨vv,e1,e3.down hp e2⟩
  | _=>exact ft' hw
 | list xs =>
  induction o using O.casesOn with
  | list ys =>
   obtain rfl:=all2_ok sameV_ok hw
   refine x1a2 h2 fun vs hl hv=>?_;clear h2
   refine x2a1 h1 fun _ vs0 hv0=>?_;clear h1
   exact ⟨vs,hl,IsVs.down hp hv0 hv⟩
  | _=>exact ft' hw
 | edict=>induction o using O.casesOn with
  | edict=>exact h2
  | _=>exact ft' hw
 | sdict xs =>
  induction o using O.casesOn with
  | sdict ys =>
   obtain rfl:=all2_ok sameP_ok hw
   obtain ⟨n,kvs,d,H⟩:=h2
   refine x2a1 h1 fun _ kvs0 H0=>?_;clear h1
   exact ⟨n,kvs,d,H0.down hp H⟩
  | _=>exact ft' hw
 | inst c d =>
  induction o using O.casesOn with
  | inst c' d' =>
   refine x0a2 (andB_ok hw :) fun g1 g2=>?_
   obtain rfl:=Nat.eq_of_beq_eq_true g1
   obtain rfl:=Nat.eq_of_beq_eq_true g2
   refine x2a2 h2 fun ox dx e1 e2=>?_;clear h2
   refine x1a1 h1 fun dx0 e0=>?_;clear h1
   exact ⟨ox,dx,pre_eq hp.adr e0 e1,e2⟩
  | _=>exact ft' hw
 | attrs xs =>
  induction o using O.casesOn with
  | attrs ys =>
   obtain rfl:=all2_ok sameP_ok hw
   refine x4a7 h2 fun o es n mm e1 e2 e3 e4 e5 e6 H=>?_;clear h2
   refine ⟨o,es,n,mm,e1,e2,e3,e4,e5,e6,fun y=>?_⟩
   induction e:lk xs (key y) using Option.casesOn with
   | none=>exact H.none e
   | some u =>
    refine x2a1 (h1 y u e :) fun _ v0 i0=>?_
    refine x1a2 (H.some e :) fun vv q1 q2=>?_
    exact ⟨vv,q1,i0.down hp q2⟩
  | _=>exact ft' hw
 | rows=>induction o using O.casesOn with
  | rows=>exact h2
  | _=>exact ft' hw
 | stv ws=>induction o using O.casesOn with
  | vals xs=>exact stv_of_vals hw h2
  | _=>exact ft' hw
 | crl n=>induction o using O.casesOn with
  | list xs =>
   refine x0a2 (andB_ok hw :) fun g1 g2=>?_
   have g1:=Nat.eq_of_beq_eq_true g1
   refine x1a2 h2 fun vs hl hv=>?_;clear h2
   exact ⟨vs,hl,by rw [← hv.length,← len_eq,g1],fits4_ok g2 hv⟩
  | crl m=>obtain rfl:=Nat.eq_of_beq_eq_true hw;exact h2
  | _=>exact ft' hw
 | _=>exact ft' hw
end
section
variable {C:SC} {T:Tk} {F:Fm} {ρ ρ':Va} {σ σ' τ:St} {s s':Shared}
theorem Rel.back (R0:Rel C F ρ σ s) (R':Rel C F ρ' σ' s') (hp:ρ.le ρ') (hn:τ.nxt = σ.nxt) (hy:τ.syn = σ.syn) (hc:∀ x u,lk τ.cur (key x) = some u→ClV ρ u) (hl:∀ n t,τ.at n = some t→n < σ.nxt∧ClO ρ t) (hw:backOK τ σ' = true):Rel C F ρ τ s':=by
 refine x0a2 (andB_ok hw :) fun hz hw=>?_
 have hz:=Nat.le_of_ble_eq_true hz
 refine x0a2 (andB_ok hw :) fun w1 w2=>?_
 have sub:∀ a∈ρ.adr,a∈ρ'.adr:=fun a ha=>hp.adr.subset ha
 have off:∀ {b},Off C ρ' s'.heap b→Off C ρ s'.heap b:=fun x=>⟨fun q=>x.adr (sub _ q),x.h0,x.live,x.base⟩
 exact {
  bk:=R'.bk
  bn:=fun n a e hz'=>R'.bn n a (getpre hp.adr e) (Nat.le_trans hz hz')
  keep:=R'.keep
  fresh:=R0.fresh
  nodup:=R0.nodup
  live:=fun a ha=>R'.live a (sub a ha)
  nxt:=by rw [hn];exact R0.nxt
  syn:=by rw [hy];exact R0.syn
  led:=fun n t e=>by
   refine x1a2 (weakL_ok w2 n t e :) fun o e' hwo=>?_
   refine x0a2 (hl n t e :) fun hlt hcl=>?_
   refine x1a2 (R'.led n o e' :) fun a' ha' I'=>?_
   have ha:ρ.adr[n]? = some (ρ.adr[n]'(R0.nxt▸hlt)):=List.getElem?_eq_getElem _
   have e2:=getpre hp.adr ha
   rw [ha'] at e2
   rw [← Option.some.inj e2] at ha
   exact ⟨a',ha,weakO_ok hwo hp hcl I'⟩
  cur:=by
   refine y12 R'.cur fun x mm n m=>?_
   refine ⟨off x,mm,n,fun y u e=>?_⟩
   refine x2a1 (hc _ _ e :) fun _ v0 i0=>?_
   refine x1a2 (m y u (sameC_ok w1 _ _ e) :) fun v e1 i1=>?_
   exact ⟨v,e1,i0.down hp i1⟩
  fr:=fun p hpp=>by
   obtain ⟨⟨x,y⟩,mm,n,m⟩:=R'.fr p hpp
   obtain ⟨_,mm0,_,m0⟩:=R0.fr p hpp
   exact ⟨⟨off x,y⟩,mm,n,m0.down hp m⟩
  held:=fun p hpp=>x0a2 (R'.held p hpp) fun x y=>⟨off x,y⟩
  tab:=R'.tab
  gens:=R'.gens
  os:=R'.os
  frames:=R'.frames
  fsL:=R'.fsL }
theorem Rel.clC (R:Rel C F ρ σ s):∀ x u,lk σ.cur (key x) = some u→ClV ρ u:=fun x u e=>y12 (R.cur) fun _ mm _ m=>x1a2 (m x u e) fun v _ i=>⟨_,v,i⟩
theorem Rel.clL (R:Rel C F ρ σ s):∀ n t,σ.at n = some t→n < σ.nxt∧ClO ρ t:=fun n t e=>x1a2 (R.led n t e) fun a ha io=>⟨by rw [R.nxt];exact (List.getElem?_eq_some_iff.mp ha).1,io.cl⟩
theorem Rel.reopen {n k:Nat} {o':O} {vs:List Value} (R:Rel C F ρ σ s) {a:Addr} (ha:ρ.adr[n]? = some a) (hk:vs.length = k) (H:IsO C ⟨ρ.adr,ρ.sym++vs⟩ s.heap a o'):Rel C F ⟨ρ.adr,ρ.sym++vs⟩ { σ.put n o' with syn:=σ.syn + k } s:=by
 have le:ρ.le ⟨ρ.adr,ρ.sym++vs⟩:=⟨List.prefix_refl _,List.prefix_append _ _⟩
 have R1:Rel C F ⟨ρ.adr,ρ.sym++vs⟩ { σ with syn:=σ.syn + k } s:={
  bk:=R.bk
  bn:=R.bn
  keep:=R.keep
  fresh:=R.fresh
  nodup:=R.nodup
  live:=R.live
  nxt:=R.nxt
  syn:=by show σ.syn + k = _;rw [R.syn,List.length_append,hk]
  led:=fun n o e=>x1a2 (R.led n o e) fun a p q=>⟨a,p,q.mono le (TK.refl _) fun o e=>e⟩
  cur:=y12 (R.cur) fun x mm n m=>⟨⟨x.adr,x.h0,x.live,x.base⟩,mm,n,m.mono le (TK.refl _)⟩
  fr:=fun p hp=>y22 (R.fr p hp) fun x y mm n m=>⟨⟨⟨x.adr,x.h0,x.live,x.base⟩,y⟩,mm,n,m.mono le (TK.refl _)⟩
  held:=fun p hp=>x0a2 (R.held p hp) fun x y=>⟨⟨x.adr,x.h0,x.live,x.base⟩,y⟩
  tab:=R.tab
  gens:=R.gens
  os:=R.os
  frames:=R.frames
  fsL:=R.fsL }
 exact R1.view (n:=n) ha H
theorem IsBts.sbs' {S:List Value} {i m n:Nat} {t:Tok} (h:S[i]? = some (.int (m:Int) t)) (hm:m < 2 ^ n):IsBts S (Mine.sbs i n 0) m:=by
 have:=IsBts.sbs h n 0
 rw [Nat.pow_zero,Nat.div_one,Nat.mod_eq_of_lt hm] at this
 exact this
theorem pre_at {α:Type} {S vs S':List α} {i:Nat} {x:α} (hp:(S++vs) <+: S') (hx:vs[i]? = some x):S'[S.length + i]? = some x:=by
 refine getpre hp ?_
 rw [List.getElem?_append_right (Nat.le_add_right _ _),Nat.add_sub_cancel_left]
 exact hx
theorem openL_ok {ad:List Addr} {h:Heap} {kvs:List (Int×Value)}:∀ (ws:List (Int×Nat)) (S:List Value),
  (∀ p∈ws,∀ v,valueAt kvs p.1 = some v→∃ (n m:Nat) (t:Addr) (u1 u2 u3:Tok),v = .ref t∧IsTup h t #[.int (p.2:Int) u1,.int (n:Int) u2,.int (m:Int) u3]∧n < 2 ^ p.2∧m < 2 ^ p.2) →
  ∃ vs:List Value,vs.length = 2 * ws.length∧∀ S',(S++vs) <+: S'→∀ k x,lkI (openL ws S.length) k = some x→(∃ v,valueAt kvs k = some v∧IsV ⟨ad,S'⟩ h x v)∨(valueAt kvs k = none∧AllZ ⟨ad,S'⟩ x):=by
 intro lq
 induction lq with
 | nil =>
  intro S _
  exact ⟨[],rfl,fun _ _ _ _ e=>by exact nS' e⟩
 | cons hq ws ih =>
  obtain ⟨k,w⟩:=hq
  intro S H
  have key:∃ n m:Nat,n < 2 ^ w∧m < 2 ^ w∧((∃ (t:Addr) (u1 u2 u3:Tok),valueAt kvs k = some (.ref t)∧IsTup h t #[.int (w:Int) u1,.int (n:Int) u2,.int (m:Int) u3])∨(valueAt kvs k = none∧n = 0∧m = 2 ^ w - 1)):=by
   have h2:0 < 2 ^ w:=Nat.two_pow_pos w
   induction e:valueAt kvs k using Option.casesOn with
   | none=>exact ⟨0,2 ^ w - 1,h2,by lia,.inr ⟨rfl,rfl,rfl⟩⟩
   | some v =>
    refine x6a4 (H (k,w) (.head _) v e :) fun n m t u1 u2 u3 q6q ht hn hm=>?_;subst q6q
    exact ⟨n,m,hn,hm,.inl ⟨t,u1,u2,u3,rfl,ht⟩⟩
  refine x2a3 key fun n m hn hm hk=>?_;clear key
  obtain ⟨vs,hl,hv⟩:=ih (S++[Value.int (n:Int) 0,.int (m:Int) 0]) fun p hp=>H p (.tail _ hp)
  refine ⟨.int (n:Int) 0 :: .int (m:Int) 0 :: vs,by simp [hl];lia,fun S' hp k' x e=>?_⟩
  have hp':(S++[Value.int (n:Int) 0,.int (m:Int) 0]++vs) <+: S':=by rw [List.append_assoc];exact hp
  have e1:S'[S.length]? = some (.int (n:Int) 0):=pre_at (i:=0) hp rfl
  have e2:S'[S.length + 1]? = some (.int (m:Int) 0):=pre_at (i:=1) hp rfl
  have b1:=IsBts.sbs' e1 hn
  have b2:=IsBts.sbs' e2 hm
  have e':lkI ((k,V.tup [.int (.ofNat w),.bv (sbs S.length w 0),.bv (sbs (S.length + 1) w 0)]) :: openL ws (S.length + 2)) k' = some x:=e
  rw [lkI_cons] at e'
  by_cases q:k = k'
  ·subst q
   rw [if_pos rfl] at e'
   (refine jS e' fun j=>?_;clear e';subst j)
   rcases hk with ⟨t,u1,u2,u3,hk,ht⟩ | ⟨hk,rfl,rfl⟩
   ·exact .inl ⟨_,hk,.tup (vs:=[.int (w:Int) u1,.int (n:Int) u2,.int (m:Int) u3]) ht (.cons .int (.cons (.bv b1) (.cons (.bv b2) .nil)))⟩
   ·exact .inr ⟨hk,w,_,_,rfl,b1,b2⟩
  ·rw [if_neg q] at e'
   have e3:S.length + 2 = (S++[Value.int (n:Int) 0,.int (m:Int) 0]).length:=by simp
   rw [e3] at e'
   exact hv S' hp' k' x e'
theorem lkI_openL {k:Int}:∀ (ws:List (Int×Nat)) (i:Nat),(lkI (openL ws i) k).isSome = (ws.lookup k).isSome:=by
 intro lq
 induction lq with
 | nil =>
  intro _
  exact rfl
 | cons hq ws ih =>
  obtain ⟨y,w⟩:=hq
  intro i
  have:lkI (openL ((y,w) :: ws) i) k = lkI ((y,V.tup [.int (.ofNat w),.bv (sbs i w 0),.bv (sbs (i + 1) w 0)]) :: openL ws (i + 2)) k:=rfl
  rw [this,lkI_cons,List.lookup_cons]
  by_cases q:y = k
  ·subst q;simp
  ·have e:(k == y) = false:=beq_eq_false_iff_ne.mpr fun z=>q z.symm
   rw [if_neg q,e]
   exact ih (i + 2)
theorem openS_ok {m:Nat} {ws:List (Int×Nat)} (R:Rel C F ρ σ s) (e:σ.at m = some (.stv ws)) (hws:∀ p∈ws,ws.lookup p.1 = some p.2):∃ ρ',ρ.le ρ'∧Rel C F ρ' (openS σ m ws) s:=by
 obtain ⟨a,ha,hn,kvs,d,H⟩:=R.led m _ e
 refine x1a2 (openL_ok (ad:=ρ.adr) (h:=s.heap) (kvs:=kvs) ws ρ.sym fun p hp v ev=>by
  refine x7a2 (H p.1 v ev :) fun w n m t u1 u2 u3 e1 r=>?_
  rw [hws p hp] at e1
  cases e1
  exact ⟨n,m,t,u1,u2,u3,r⟩ :) fun vs hl hv=>?_
 refine ⟨⟨ρ.adr,ρ.sym++vs⟩,⟨List.prefix_refl _,List.prefix_append _ _⟩,?_⟩
 have H2:IsO C ⟨ρ.adr,ρ.sym++vs⟩ s.heap a (.vals (openL ws σ.syn)):=by
  refine ⟨hn,kvs,d,fun k x ex=>?_,fun p hp=>?_⟩
  ·rw [R.syn] at ex
   exact hv _ (List.prefix_refl _) k x ex
  ·rw [lkI_openL]
   induction q:valueAt kvs p.1 using Option.casesOn with
   | some v=>refine x7a2 (H p.1 v q :) fun w n m t u1 u2 u3 e1 _=>?_;rw [e1];rfl
   | none =>
    unfold valueAt at q
    rw [Option.map_eq_none_iff,List.find?_eq_none] at q
    exact absurd (decide_eq_true rfl) (q p hp)
 have:=R.reopen (k:=2 * ws.length) ha hl H2
 unfold openS
 rw [len_eq]
 exact this
theorem crumbs_ok {ad:List Addr} {h:Heap} {i:Nat}:∀ (vs:List Value) (j N:Nat) (S:List Value) (t:Tok),(∀ v∈vs,∃ (n:Nat) (t:Tok),v = Value.int (n:Int) t∧n < 4)→S[i]? = some (.int (N:Int) t) →
  (∀ k n u,vs[k]? = some (Value.int (n:Nat) u)→N / 2 ^ (2 * (j + k)) % 4 = n)→IsVs ⟨ad,S⟩ h (crumbs i vs.length j) vs:=by
 intro lq
 induction lq with
 | nil =>
  intro _ _ _ _ _ _ _
  exact .nil
 | cons v vs ih =>
  intro j N S t H hS hN
  refine x2a2 (H v (.head _) :) fun n u q2q hn=>?_;subst q2q
  have h0:=hN 0 n u rfl
  rw [Nat.add_zero] at h0
  refine .cons (.bv ?_) (ih (j + 1) N S t (fun v hv=>H v (.tail _ hv)) hS fun k n u e=>?_)
  ·have:=IsBts.cons (.s (j:=2 * j) hS) (.cons (.s (j:=2 * j + 1) hS) .nil)
   have e:N / 2 ^ (2 * j) % 2 + 2 * (N / 2 ^ (2 * j + 1) % 2 + 2 * 0) = n:=by
    rw [Nat.pow_succ,← Nat.div_div_eq_div_mul,← h0]
    lia
   rw [e] at this
   exact this
  ·have:=hN (k + 1) n u (by simpa using e)
   rw [show j + 1 + k = j + (k + 1) from Nat.add_right_comm j 1 k];exact this
theorem crumbN:∀ (vs:List Value),(∀ v∈vs,∃ (n:Nat) (t:Tok),v = Value.int (n:Int) t∧n < 4)→∃ N:Nat,∀ k n u,vs[k]? = some (Value.int (n:Nat) u)→N / 2 ^ (2 * k) % 4 = n
 | [],_=>⟨0,fun k n u e=>by simp at e⟩
 | v :: vs,H=>by
  refine x2a2 (H v (.head _) :) fun n u q2q hn=>?_;subst q2q
  refine x1a1 (crumbN vs fun v hv=>H v (.tail _ hv) :) fun N hN=>?_
  refine ⟨n + 4 * N,fun k m u e=>?_⟩
  cases k with
  | zero =>
   simp at e
   refine x0a2 e fun e1 _=>?_;clear e
   rw [Nat.mul_zero,Nat.pow_zero,Nat.div_one];lia
  | succ k =>
   have:=hN k m u (by simpa using e)
   rw [show 2 * (k + 1) = 2 + 2 * k by rw [Nat.mul_succ,Nat.add_comm],Nat.pow_add,← Nat.div_div_eq_div_mul]
   have e4:(n + 4 * N) / 2 ^ 2 = N:=by lia
   rw [e4];exact this
theorem crumbs_len (i:Nat):∀ (n j:Nat),(crumbs i n j).length = n
 | 0,_=>rfl
 | n + 1,j=>congrArg (· + 1) (crumbs_len i n (j + 1))
theorem openC_ok {b n:Nat} (R:Rel C F ρ σ s) (e:σ.at b = some (.crl n)):∃ ρ',ρ.le ρ'∧Rel C F ρ' (openC σ b n none) s:=by
 obtain ⟨a,ha,vs,hl,hn,H⟩:=R.led b _ e
 refine x1a1 (crumbN vs H :) fun N hN=>?_
 have hS:(ρ.sym++[Value.int (N:Int) 0])[σ.syn]? = some (.int (N:Int) 0):=by rw [R.syn];simp
 have hv:=crumbs_ok (ad:=ρ.adr) (h:=s.heap) vs 0 N _ 0 H hS fun k n u e=>by rw [Nat.zero_add];exact hN k n u e
 rw [hn] at hv
 exact ⟨⟨ρ.adr,ρ.sym++[Value.int (N:Int) 0]⟩,⟨List.prefix_refl _,List.prefix_append _ _⟩,R.reopen (k:=1) ha rfl ⟨vs,hl,hv⟩⟩
theorem openCL_ok {b n:Nat} (R:Rel C F ρ σ s) (e:σ.at b = some (.crl (n + 1))):∃ t ρ',t < 4∧ρ.le ρ'∧Rel C F ρ' (openC σ b (n + 1) (some t)) s:=by
 obtain ⟨a,ha,vs,hl,hn,H⟩:=R.led b _ e
 obtain ⟨ws,v,rfl⟩:∃ ws v,vs = ws++[v]:=by
  rcases List.eq_nil_or_concat vs with rfl | ⟨ws,v,rfl⟩
  ·cases hn
  ·exact ⟨ws,v,by simp⟩
 refine x2a2 (H v (by simp) :) fun m t q2q hm=>?_;subst q2q
 have H':∀ v∈ws,∃ (n:Nat) (t:Tok),v = Value.int (n:Int) t∧n < 4:=fun v hv=>H v (List.mem_append_left _ hv)
 refine x1a1 (crumbN ws H' :) fun N hN=>?_
 have hS:(ρ.sym++[Value.int (N:Int) 0])[σ.syn]? = some (.int (N:Int) 0):=by rw [R.syn];simp
 have hv:=crumbs_ok (ad:=ρ.adr) (h:=s.heap) ws 0 N _ 0 H' hS fun k n u e=>by rw [Nat.zero_add];exact hN k n u e
 have hw:ws.length = n:=by simpa using hn
 rw [hw] at hv
 refine ⟨m,⟨ρ.adr,ρ.sym++[Value.int (N:Int) 0]⟩,hm,⟨List.prefix_refl _,List.prefix_append _ _⟩,R.reopen (k:=1) ha rfl ⟨_,hl,?_⟩⟩
 show IsVs _ _ (app (crumbs σ.syn n 0) [.int (.ofNat m)]) _
 rw [app_eq]
 exact hv.append (.cons .int .nil)
end
end Mine
end
section
set_option backward.match.sparseCases true
set_option maxHeartbeats 4000000
namespace Mine
noncomputable def semL (C:SC) (ks:Kd) (l:List PySem.Stmt):Rc→Ve→St→KS→KX→Bool:=fun _ v σ κ ε=>@decide (∀ A F env ρ s Q E,EnvOK C A F env ks v ρ→Top1 F env→Rel C F ρ σ s→GoS C F ρ s.heap κ Q→GoE C F ρ s.heap ε E→wpAny (model PW C.w) A (execs l env) Q E s) (Classical.propDecidable _)
noncomputable def kF (P:Fl→St→Prop):KS:=fun u σ=>@decide (P u σ) (Classical.propDecidable _)
theorem kF_ok {P:Fl→St→Prop} {u:Fl} {σ:St} (h:kF P u σ = true):P u σ:=@of_decide_eq_true _ (Classical.propDecidable _) h
theorem kF_of {P:Fl→St→Prop} {u:Fl} {σ:St} (h:P u σ):kF P u σ = true:=@decide_eq_true _ (Classical.propDecidable _) h
section
variable {C:SC} {T:Tk} {F:Fm} {ρ ρ':Va} {σ σ':St} {s s':Shared} {A:Around} {env:Env} {ks:Kd} {v:Ve} {E:Value→Shared→Prop} {cx:PySem.Expr→Mine.C} {cs:PySem.Stmt→CS} {r:Rc} {h:Heap}
theorem semL_ok {l:List PySem.Stmt}:WS C ks (fun v σ κ ε=>semL C ks l r v σ κ ε) (execs l):=fun _ _ _ _ h=>@of_decide_eq_true _ (Classical.propDecidable _) h
theorem semL_of {l:List PySem.Stmt} {κ:KS} {ε:KX} (h:∀ A F env ρ s Q E,EnvOK C A F env ks v ρ→Top1 F env→Rel C F ρ σ s→GoS C F ρ s.heap κ Q→GoE C F ρ s.heap ε E→wpAny (model PW C.w) A (execs l env) Q E s):semL C ks l r v σ κ ε = true:=@decide_eq_true _ (Classical.propDecidable _) h
theorem forRb_ok (G:Gr C T) (hc:WCx C ks r cx) {bd:Rc→Ve→St→KS→KX→Bool} {body:List PySem.Stmt} (hs:WS C ks (fun v σ κ ε=>bd r v σ κ ε) (execs body)) {t f:PySem.Expr} {args:List PySem.Expr} {cp p:Pos} (ef:isRange T ks f = true) (hst:noStar args = true) :
  WSt C ks r (.For t (.Call f args [] cp) body [] p) ⟨fun r v σ κ ε=>evs cx args r v σ (fun vs σ'=>rangeOf vs fun l=>forL bd (asgC T cx ks t) l r v σ' κ ε) ε⟩:=by
 intro v σ κ ε h A F env ρ s Q E H T1 R GS GE
 have h':evs cx args r v σ (fun vs σ'=>rangeOf vs fun l=>forL bd (asgC T cx ks t) l r v σ' κ ε) ε = true:=h
 refine wpAny_For (rangeCall (fin:=fun l v σ'=>forL bd (asgC T cx ks t) l r v σ' κ ε) G hc ef hst h' H R GE ?_) (fun _=>rfl)
 intro ρ1 σ1 s1 k a t u w hf N hr hk
 exact forRng_ok G hc hs (H.mono N.pre) T1 N.rel hr hk (GS.next N) (GE.next N) hf
theorem forIb_ok (G:Gr C T) (hc:WCx C ks r cx) {bd:Rc→Ve→St→KS→KX→Bool} {body:List PySem.Stmt} (hs:WS C ks (fun v σ κ ε=>bd r v σ κ ε) (execs body)) {t e:PySem.Expr} {p:Pos} (hne:∀ a b c,e≠.Set a b c) :
  WSt C ks r (.For t e body [] p) ⟨fun r v σ κ ε=>(cx e).x r v σ (fun u σ'=>forV bd (asgC T cx ks t) u r v σ' κ ε) ε⟩:=by
 intro v σ κ ε h A F env ρ s Q E H T1 R GS GE
 have h':(cx e).x r v σ (fun u σ'=>forV bd (asgC T cx ks t) u r v σ' κ ε) ε = true:=h
 have hf:∀ x,foldedSetIterable e env x = pure x:=fun x=>by
  induction e using Expr.casesOn <;> first | rfl | exact absurd rfl (hne _ _ _)
 refine wpAny_For ((hc.ok e).x v σ _ ε h' A F env ρ s _ E H R ?_ GE) hf
 intro ρ1 σ1 s1 u x hu N hx
 induction hx using IsV.casesOn with
 | @tup l a vs ht hl=>exact forTup_ok G hc hs (H.mono N.pre) T1 N.rel ht hl (GS.next N) (GE.next N) hu
 | @loc n a hn=>exact forLst_ok G hc hs (H.mono N.pre) T1 N.rel hn (GS.next N) (GE.next N) hu
 | _=>exact ft' hu
theorem Rel.recur {c:List (Nat×V)} (R:Rel C F ρ σ s) (hc:∀ x u,lk c x = some u→∃ u',lk σ.cur x = some u'∧∀ v,IsV ρ s.heap u' v→IsV ρ s.heap u v):Rel C F ρ { σ with cur:=c } s :=
 { R with cur:=y12 (R.cur) fun x mm n m=>⟨x,mm,n,fun y u e=>x1a2 (hc _ _ e) fun u' e1 e2=>x1a2 (m y u' e1) fun v e3 e4=>⟨v,e3,e2 v e4⟩⟩ }
theorem Rel.relet {l:List (Nat×O)} (R:Rel C F ρ σ s) (hl:∀ n o,lk l n = some o→lk σ.led n = some o):Rel C F ρ { σ with led:=l } s :=
 { R with led:=fun n o e=>R.led n o (hl n o e) }
theorem one_st {st:PySem.Stmt} {rest:List PySem.Stmt} {f:CS} {κ:KS} {ε:KX} {Q:Flow→Shared→Prop} (hs:WSt C ks r st f) (hb:f.s r v σ κ ε = true) (H:EnvOK C A F env ks v ρ) (T1:Top1 F env) (R:Rel C F ρ σ s) (GE:GoE C F ρ s.heap ε E)
  (hQ:∀ ρ' σ' s' fl f,κ fl σ' = true→Next C F ρ s.heap ρ' σ' s'→IsFl ρ' s'.heap fl f→match f with | .next=>wpAny (model PW C.w) A (execs rest env) Q E s' | f=>Q f s'):wpAny (model PW C.w) A (execs (st :: rest) env) Q E s :=
 wpAny_execs_cons (hs v σ κ ε hb A F env ρ s _ E H T1 R hQ GE)
end
end Mine
end
section
set_option maxHeartbeats 4000000
namespace Mine
noncomputable section
noncomputable def layR (ks:Kd) (b:List (Nat×V)):List (Nat×Nat)→St→List (Nat×Nat)×St:=List.rec (fun cs σ=>(cs,σ)) (fun p _ ih cs σ=>match p.2 with
 | .cell=>ih ((p.1,σ.nxt) :: cs) (σ.new (.cell (lk b p.1)))
 | _=>ih cs σ) ks
theorem lay_R {b:List (Nat×V)} {κ:List (Nat×Nat)→St→Bool}:∀ (ks:Kd) (cs:List (Nat×Nat)) (σ:St),lay ks b cs σ κ = κ (layR ks b cs σ).1 (layR ks b cs σ).2
 | [],_,_=>rfl
 | (x,k) :: ks,cs,σ=>by
  induction k using NameKind.casesOn with
  | cell=>exact lay_R ks ((x,σ.nxt) :: cs) (σ.new (.cell (lk b x)))
  | _=>exact lay_R ks cs σ
noncomputable def st0:St:=⟨[],[],0,0,0⟩
noncomputable def cs0:List (Nat×Nat):=(layR (kindsOf lawSc) [] [] st0).1
noncomputable def σc:St:=(layR (kindsOf lawSc) [] [] st0).2
noncomputable def nc:Nat:=σc.nxt
noncomputable def kRow:Nat:=key "row"
noncomputable def kScript:Nat:=key "script"
noncomputable def kCell:Nat:=key "cell"
noncomputable def kNumber:Nat:=key "number"
noncomputable def rowKs:Kd:=kindsOf rowSc
noncomputable def rst (nm:List (Nat×V)) (L xs:List V):St:={ σc with cur:=nm,led:=(nc + 1,.list L) :: (nc,.list xs) :: σc.led,nxt:=nc + 2 }
noncomputable def stAt (l:List PySem.Stmt) (n:Nat):PySem.Stmt:=match nth l n with | some st=>st | none=>.Pass default
noncomputable def forT:PySem.Stmt→PySem.Expr | .For t _ _ _ _=>t | _=>default
noncomputable def forI:PySem.Stmt→PySem.Expr | .For _ e _ _ _=>e | _=>default
noncomputable def forB:PySem.Stmt→List PySem.Stmt | .For _ _ b _ _=>b | _=>[]
noncomputable def forP:PySem.Stmt→Pos | .For _ _ _ _ p=>p | _=>default
noncomputable def rowFor:PySem.Stmt:=stAt rowBody 1
noncomputable def rowB1:List PySem.Stmt:=forB rowFor
noncomputable def inFor:PySem.Stmt:=stAt rowB1 3
noncomputable def inB:List PySem.Stmt:=forB inFor
end
noncomputable section
noncomputable def nmR (scr:Nat):List (Nat×V):=[(kScript,.top scr),(kRow,.loc nc)]
noncomputable def nmC (scr:Nat) (z:Int):List (Nat×V):=[(kScript,.top scr),(kRow,.loc nc),(kCell,.int z)]
noncomputable def nmN (scr:Nat) (z N:Int):List (Nat×V):=[(kScript,.top scr),(kRow,.loc nc),(kCell,.int z),(kNumber,.int N)]
noncomputable def kTurn:Nat:=key "turn"
noncomputable def nmT (scr:Nat) (z N:Int) (u:V):List (Nat×V):=[(kScript,.top scr),(kRow,.loc nc),(kCell,.int z),(kNumber,.int N),(kTurn,u)]
noncomputable def rst2 (scr:Nat) (L xs ys:List V):St:={ σc with cur:=[(kScript,.top scr),(kRow,.loc (nc + 2))],led:=(nc + 2,.list ys) :: (nc + 1,.list L) :: (nc,.list xs) :: σc.led,nxt:=nc + 3 }
end
section
variable (r:Rc) (v:Ve) (scr n:Nat) (z N:Int) (u:V) (L xs ys:List V) (κ:KS) (ε:KX)
theorem eqS0:(compS TT rowKs 40 (stAt rowBody 0)).s r v { σc with cur:=[(kScript,.top scr)] } κ ε = κ .next { σc with cur:=nmR scr,led:=(nc,.list []) :: σc.led,nxt:=nc + 1 }:=by kernel_rfl
theorem eqb0p:(compS TT rowKs 40 (stAt rowB1 0)).s r v (rst (nmC scr (.ofNat n)) L xs) κ ε = κ .next (rst (nmN scr (.ofNat n) (.ofNat n)) L xs):=by kernel_rfl
theorem eqb0n:(compS TT rowKs 40 (stAt rowB1 0)).s r v (rst (nmC scr (.negSucc n)) L xs) κ ε = κ .next (rst (nmN scr (.negSucc n) (7 - .negSucc n)) L xs):=by kernel_rfl
theorem eqb1:(compS TT rowKs 40 (stAt rowB1 1)).s r v (rst (nmN scr z N) L xs) κ ε = ifB (fitsN (len xs)) (κ .next (rst (nmN scr z N) L (app xs [.int (Int.fmod N 1024)]))) false:=by kernel_rfl
theorem eqb2:(compS TT rowKs 40 (stAt rowB1 2)).s r v (rst (nmN scr z N) L xs) κ ε = κ .next (rst (nmN scr z (Int.fdiv N 1024)) L xs):=by kernel_rfl
theorem eqIf:(compS TT rowKs 40 (stAt inB 0)).s r v (rst (nmT scr z N u) L xs) κ ε = (match ltI 0 N with
  | true=>ifB (fitsN (len xs)) (κ .next (rst (nmT scr z (Int.fdiv N 1024) u) L (app xs [.int (Int.fmod N 1024)]))) false
  | false=>κ .next (rst (nmT scr z N u) L xs)):=by kernel_rfl
theorem eqS2:(compS TT rowKs 40 (stAt rowBody 2)).s r v (rst (nmR scr) L xs) κ ε = ifB (fitsN (len xs)) (ifB (fitsN (len (sliceL xs none (some 160)))) (κ .next (rst2 scr L xs (sliceL xs none (some 160)))) false) false:=by kernel_rfl
theorem eqS4:(compS TT rowKs 40 (stAt rowBody 4)).s r v (rst2 scr L xs ys) κ ε = κ (.ret (.loc (nc + 2))) (rst2 scr L xs ys):=by kernel_rfl
end
end Mine
end
section
set_option maxHeartbeats 4000000
namespace Mine
structure ScrOK (C:SC) (scr:Addr) (is:List Int):Prop where
 list:∃ vs:List Value,C.h0.IsList scr vs.toArray∧∀ ρ h,IsVs ρ h (is.map V.int) vs
 len:is.length≤63
 ne:scr≠C.P
noncomputable def cSl (scr:Nat) (is:List Int) (x:Str) (hi:PySem.Expr):Mine.C:=mkC fun r v σ κ ε=>(cNm TT rowKs (key x)).x r v σ (fun u σ1=>match u with
 | .top a=>ifB (Nat.beq a scr) (cOpt (compX TT 40 rowKs) none r v σ1 (fun a σ2=>cOpt (compX TT 40 rowKs) (some hi) r v σ2 (fun b σ3=>newL κ σ3 (sliceL (is.map V.int) a b)) ε) ε) false
 | _=>false) ε
noncomputable def cRv (x:Str):Mine.C:=mkC fun r v σ κ ε=>(cNm TT rowKs (key x)).x r v σ (fun u σ1=>match u with
 | .loc n=>(match σ1.at n with
  | some o=>(match o with | .list xs=>ifB (fitsN (len xs)) (putK σ1 n (.list (revL xs)) (κ .none)) false | _=>false)
  | none=>false)
 | _=>false) ε
section
variable {C:SC} {F:Fm} {ρ ρ':Va} {σ σ':St} {s s':Shared} {A:Around} {env:Env} {ks:Kd} {v:Ve} {E:Value→Shared→Prop} {r:Rc}
theorem cSl_ok (G:Gr C TT) (hc:WCx C rowKs r (compX TT 40 rowKs)) {scr:Nat} {is:List Int} (hS:ScrOK C scr is) {x:Str} {hi:PySem.Expr} {p1 p2 p3:Pos} :
  WC C rowKs r (.Subscript (.Name x p1) (.Slice none (some hi) none p2) p3) (cSl scr is x hi):=by
 refine mkC_ok (fun _ _=>rfl) fun v σ κ ε h A F env ρ s Q E H R GQ GE=>?_
 refine Subscript_ ((name_ok G (r:=r)).x v σ _ ε h A F env ρ s _ E H R ?_ GE)
 intro ρ1 σ1 s1 u vv hu N hv
 induction hv using IsV.casesOn with
 | @top a =>
  refine x0a2 (ifB_ok (b:=Nat.beq a scr) hu :) fun h1 h2=>?_
  obtain rfl:=Nat.eq_of_beq_eq_true h1
  refine wpAny_Slice (opt_ok hc h2 (H.mono N.pre) N.rel ?_ (GE.next N))
  intro ρ2 σ2 s2 a' x' ha N2 pa
  have N2':=N.trans N2
  refine opt_ok hc ha (H.mono N2'.pre) N2'.rel ?_ (GE.next N2')
  intro ρ3 σ3 s3 b y hb N3 pb
  have N3':=N2'.trans N3
  refine wpAny_pure ?_
  have G3:=GQ.next N3'
  have kp:=keep_push s3.heap { cls:=.type "slice",data:=.fields #[x',y,.none] }
  have R4:Rel C F ρ3 σ3 { s3 with heap:=s3.heap.push { cls:=.type "slice",data:=.fields #[x',y,.none] } }:=N3'.rel.grow kp rfl rfl
  have N4:Next C F ρ3 s3.heap ρ3 σ3 { s3 with heap:=s3.heap.push { cls:=.type "slice",data:=.fields #[x',y,.none] } }:=⟨Va.le.refl _,TK.keeps kp,R4⟩
  have G4:=G3.next N4
  have hs:=Heap.IsSliceOf.new s3.heap x' y .none
  refine x1a2 (hS.list :) fun vs hL0 hl0=>?_
  have hL:(s3.heap.push { cls:=.type "slice",data:=.fields #[x',y,.none] }).IsList a vs.toArray:=let ⟨o,e,r⟩:=hL0;⟨o,kp _ _ (N3'.rel.keep _ _ e hS.ne),r⟩
  have hl:=hl0 ρ3 (s3.heap.push { cls:=.type "slice",data:=.fields #[x',y,.none] })
  have hlen:=hl.length
  rw [List.length_map] at hlen
  have hb':newL κ σ3 (sliceL (is.map V.int) a' b) = true:=hb
  rw [sliceL_eq,hl.length] at hb'
  have hl':=(hl.take (clampP vs.length vs.length b)).drop (clampP vs.length 0 a')
  refine x0a2 (newL_at hb' R4 hl' G4 :) fun h3 h4=>?_
  refine subTail hL.typeIs list_getitem_lookup (wpAny_getItem_list_slice hL hs pa pb .none (by simp) ?_ (by rw [List.size_toArray];have:=hS.len;exact fits_line (by lia)))
  rw [pick_ok]
  simp only [List.size_toArray]
  exact h4
 | _=>exact ft' hu
theorem rev_list {n:Nat} {xs:List V} {l:Addr} {κ:KX} {Q:Value→Shared→Prop} (h1:fitsN (len xs) = true) (h2:putK σ n (.list (revL xs)) (κ .none) = true) (e:σ.at n = some (.list xs)) (ha:ρ.adr[n]? = some l) (R:Rel C F ρ σ s) (G:GoQ C F ρ s.heap κ Q) :
  wpAny (model PW C.w) A (call (.builtin "list.reverse") [.ref l]) Q E s:=by
 refine x1a2 (R.thing ha e :) fun vs hl hvs=>?_
 refine x0a2 (putK_ok h2 :) fun hz h3=>?_
 have hf:=fitsN_ok h1
 rw [len_eq,hvs.length] at hf
 rw [revL_eq] at h3
 refine x1a3 (plainList_no hl :) fun oa he nt nc=>?_
 refine x1a1 hl fun k hg=>?_;clear hl
 refine call_meets PySem.F.slot_list_reverse ⟨_,hg,rfl⟩ PySem.F.entry_list_reverse (PySem.F.args_list_reverse_1 _) (PySem.AutoSeq1.list_reverse_list_0 l _ k (by rw [List.size_toArray];exact fits_line hf)) ⟨hg,?_⟩
 have hpl':(s.heap.update l (Obj.mapSeq fun x=>x.reverse)).PlainList l vs.reverse.toArray:=by
  have z:=PySem.IsL.update hg (fun xs=>xs.reverse)
  rw [List.reverse_toArray] at z
  exact ⟨_,z⟩
 have hrev:∀ {xs:List V} {vs:List Value} {h:Heap},IsVs ρ h xs vs→IsVs ρ h xs.reverse vs.reverse:=by
  intro xs vs h x
  induction xs generalizing vs with
  | nil=>cases x;exact .nil
  | cons y ys ih =>
   cases x with
   | cons a r=>rw [List.reverse_cons,List.reverse_cons];exact (ih r).append (.cons a .nil)
 have N:=R.turned (o':=.list xs.reverse) s.toks ha hz he nt nc (Heap.SameBut.update ..) (x1a1 (hpl') fun _ e=>⟨_,e⟩) fun tk=>⟨_,hpl',hrev (hvs.mono (Va.le.refl _) tk)⟩
 exact G _ _ _ _ _ h3 N .none
theorem cRv_ok (G:Gr C TT) {x:Str} {p1 p2 pos:Pos} (hline:p2.endLine = pos.line):WC C rowKs r (.Call (.Attribute (.Name x p1) "reverse" p2) [] [] pos) (cRv x):=by
 refine mkC_ok (fun _ _=>rfl) fun v σ κ ε h A F env ρ s Q E H R GQ GE=>?_
 have W:WCx C rowKs r (cxN TT rowKs):=cxN_ok G
 refine ownMeth W (fun _ _ _=>rfl) rfl hline (Nat.zero_le _) (v:=v) (σ:=σ) (ε:=ε) (o:=.Name x p1) h H R GE ?_
 intro ρ1 σ1 s1 u uv hu N iv pl
 induction u using V.casesOn with
 | loc n =>
  refine x1a2 (iv.loc_inv :) fun a q1q ha=>?_;subst q1q
  have hu':(match σ1.at n with
   | some o=>(match o with | .list xs=>ifB (fitsN (len xs)) (putK σ1 n (.list (revL xs)) (κ .none)) false | _=>false)
   | none=>false) = true:=hu
  induction eo:σ1.at n using Option.casesOn with
  | none=>rw [eo] at hu';exact ft' hu'
  | some o =>
   rw [eo] at hu'
   induction o using O.casesOn with
   | list xs =>
    refine x0a2 (ifB_ok hu' :) fun h1 h2=>?_
    refine x1a2 (N.rel.thing ha eo :) fun vs hpl hvs=>?_
    have nd:∃ o,s1.heap.get? a = some o∧o.dict = none:=x1a1 (hpl) fun _ e=>⟨_,e,rfl⟩
    refine getMethod_builtin hpl.isList.typeIs PySem.F.plainAttrs_list PySem.F.slot_list_reverse PySem.F.type_list_reverse (fun b e=>by cases e;exact nd) ⟨fun us σ'=>kP (fun _ σ''=>us = []∧σ'' = σ1) .none σ',show kP (fun _ σ'=>([]:List V) = []∧σ' = σ1) .none σ1 = true from kP_of ⟨rfl,rfl⟩,N,?_⟩
    intro ρ7 σ7 s7 us ws7 hu7
    refine x0a2 (kP_ok hu7 :) fun q0q q1q=>?_;subst q0q;subst q1q
    intro N7 hws
    cases hws
    exact ⟨kept_builtin _,rev_list h1 h2 eo (getpre N7.pre.adr ha) N7.rel (GQ.next (N.trans N7))⟩
   | _=>exact ft' hu'
 | _=>exact ft' hu
end
end Mine
end
section
set_option maxHeartbeats 4000000
namespace Mine
theorem rowBody_eq:rowBody = [stAt rowBody 0,rowFor,stAt rowBody 2,stAt rowBody 3,stAt rowBody 4]:=by kernel_rfl
theorem rowB1_eq:rowB1 = [stAt rowB1 0,stAt rowB1 1,stAt rowB1 2,inFor]:=by kernel_rfl
theorem inB_eq:inB = [stAt inB 0]:=by kernel_rfl
noncomputable section
noncomputable def cArgs:PySem.Expr→List PySem.Expr | .Call _ a _ _=>a | _=>[]
noncomputable def cFun:PySem.Expr→PySem.Expr | .Call f _ _ _=>f | _=>default
noncomputable def cPos:PySem.Expr→Pos | .Call _ _ _ p=>p | _=>default
noncomputable def sHi:PySem.Expr→PySem.Expr | .Subscript _ (.Slice _ (some h) _ _) _=>h | _=>default
noncomputable def sP1:PySem.Expr→Pos | .Subscript (.Name _ p) _ _=>p | _=>default
noncomputable def sP2:PySem.Expr→Pos | .Subscript _ (.Slice _ _ _ p) _=>p | _=>default
noncomputable def sP3:PySem.Expr→Pos | .Subscript _ _ p=>p | _=>default
noncomputable def xE:PySem.Stmt→PySem.Expr | .Expr e _=>e | _=>default
noncomputable def xP:PySem.Stmt→Pos | .Expr _ p=>p | _=>default
noncomputable def aP1:PySem.Expr→Pos | .Call (.Attribute (.Name _ p) _ _) _ _ _=>p | _=>default
noncomputable def aP2:PySem.Expr→Pos | .Call (.Attribute _ _ p) _ _ _=>p | _=>default
end
theorem rowFor_eq:rowFor = .For (forT rowFor) (.Subscript (.Name "script" (sP1 (forI rowFor))) (.Slice none (some (sHi (forI rowFor))) none (sP2 (forI rowFor))) (sP3 (forI rowFor))) rowB1 [] (forP rowFor):=by kernel_rfl
theorem inFor_eq:inFor = .For (forT inFor) (.Call (cFun (forI inFor)) (cArgs (forI inFor)) [] (cPos (forI inFor))) inB [] (forP inFor):=by kernel_rfl
theorem rowRev_eq:stAt rowBody 3 = .Expr (.Call (.Attribute (.Name "row" (aP1 (xE (stAt rowBody 3)))) "reverse" (aP2 (xE (stAt rowBody 3)))) [] [] (cPos (xE (stAt rowBody 3)))) (xP (stAt rowBody 3)):=by kernel_rfl
theorem revLine:(aP2 (xE (stAt rowBody 3))).endLine = (cPos (xE (stAt rowBody 3))).line:=by kernel_rfl
theorem inRange:isRange TT rowKs (cFun (forI inFor)) = true:=by kernel_rfl
theorem inStar:noStar (cArgs (forI inFor)) = true:=by kernel_rfl
section
variable (r:Rc) (v:Ve) (scr n:Nat) (z N:Int) (u:V) (L xs ys:List V) (κ:KS) (κx:KX) (ε:KX) (f:List V→St→Bool) (g:V→Bool) (b:Bool) (k:St→Bool)
theorem eqT:(asgC TT (compX TT 40 rowKs) rowKs (forT inFor)).a r v u (rst (nmN scr z N) L xs) k ε = k (rst (nmT scr z N u) L xs):=by kernel_rfl
theorem eqC (i:Int):(asgC TT (compX TT 40 rowKs) rowKs (forT rowFor)).a r v (.int i) (rst (nmR scr) L xs) k ε = k (rst (nmC scr i) L xs):=by kernel_rfl
theorem eqA:evs (compX TT 40 rowKs) (cArgs (forI inFor)) r v (rst (nmN scr z N) L xs) (fun vs σ'=>rangeOf vs fun l=>f l σ') ε = f (rangeL 0 30) (rst (nmN scr z N) L xs):=by kernel_rfl
theorem eqN (nm:List (Nat×V)):nthAt (nc + 1) n (rst nm L xs) b g = (match nth L n with | some u=>g u | none=>b):=by kernel_rfl
theorem eqR:(cRv "row").x r v (rst2 scr L xs ys) κx ε = ifB (fitsN (len ys)) (κx .none (rst2 scr L xs (revL ys))) false:=by kernel_rfl
theorem eqSl (is:List Int):(cSl scr is "script" (sHi (forI rowFor))).x r v { σc with cur:=nmR scr,led:=(nc,.list xs) :: σc.led,nxt:=nc + 1 } κx ε =
 (match Nat.beq scr scr with
  | true=>ifB (fitsN (len (sliceL (is.map V.int) none (some 40)))) (κx (.loc (nc + 1)) (rst (nmR scr) (sliceL (is.map V.int) none (some 40)) xs)) false
  | false=>false):=by kernel_rfl
end
end Mine
end
section
set_option maxHeartbeats 4000000
namespace Mine
noncomputable abbrev rT:Rc:=runC TT 40
section
variable {C:SC} {F:Fm} {ρ ρ':Va} {σ σ':St} {s s':Shared} {A:Around} {env:Env} {ks:Kd} {v:Ve} {E:Value→Shared→Prop} {r:Rc}
theorem stT_ok (D:Gd C TT) (S:StOK C TT) (ks:Kd) (st:PySem.Stmt):WSt C ks rT st (compS TT ks 40 st):=(compS_ok D.gr D.next D.exc (rc_all 40 C D S) (store_all 40 D S) ks 40).ok st
theorem cxT_ok (D:Gd C TT) (S:StOK C TT) (ks:Kd):WCx C ks rT (compX TT 40 ks):=compX_ok D.gr D.next (rc_all 40 C D S) (store_all 40 D S) 40 ks
theorem ifB_t {x y:Bool}:ifB true x y = x:=rfl
theorem nums_snoc (ns:List Nat) (k:Nat):app (nums ns) [.int (k:Int)] = nums (ns++[k]):=by rw [app_eq];simp [nums]
theorem nums_len (ns:List Nat):len (nums ns) = ns.length:=by rw [len_eq,nums,List.length_map]
theorem fits_nums {ns:List Nat} (h:ns.length≤10000):fitsN (len (nums ns)) = true:=by
 unfold fitsN
 rw [nums_len]
 exact Nat.ble_eq.mpr (by lia)
theorem Rel.fewer {c:List (Nat×V)} (R:Rel C F ρ σ s) (hc:∀ x u,lk c x = some u→lk σ.cur x = some u):Rel C F ρ { σ with cur:=c } s:=R.recur fun x u e=>⟨u,hc x u e,fun _ h=>h⟩
set_option tactic.hygienic true in
theorem lk_pre {α:Type} {x:Nat} {u:α}:∀ {l m:List (Nat×α)},lk l x = some u→lk (l++m) x = some u:=by
 intro lq
 induction lq with
 | nil =>
  intro _ e
  exact nS' e
 | cons hq l ih =>
  obtain ⟨y,w⟩:=hq
  intro m e
  rw [List.cons_append,lk_cons]
  rw [lk_cons] at e
  refine ifL (fun _=>?_) fun _=>?_
  ·rename_i q;rw [if_pos q] at e;exact e
  ·rename_i q;rw [if_neg q] at e;exact ih e
theorem noE_ok {h:Heap}:GoE C F ρ h (fun _ _=>false) (fun (_:Value) (_:Shared)=>False):=fun _ _ _ _ _ q=>(Bool.false_ne_true q).elim
theorem inTurn (D:Gd C TT) (S:StOK C TT) {scr:Nat} {z:Int} {N:Nat} {L:List V} {ns:List Nat} {u:V} {κ:KS} {ε:KX} (hns:∀ k∈ns,k < 1024) (hl:ns.length < 10000)
  (hκ:∀ ns' N',(∀ k∈ns',k < 1024)→ns'.length≤ns.length + 1→κ .next (rst (nmN scr z (N':Nat)) L (nums ns')) = true):semL C rowKs inB rT v (rst (nmT scr z (N:Int) u) L (nums ns)) κ ε = true:=by
 refine semL_of fun A F env ρ s Q E H T1 R GS GE=>?_
 rw [inB_eq]
 have fin:∀ ρ' s' ns' (N':Nat),(∀ k∈ns',k < 1024)→ns'.length≤ns.length + 1→Next C F ρ s.heap ρ' (rst (nmT scr z (N':Int) u) L (nums ns')) s'→Q .next s':=fun ρ' s' ns' N' h1 h2 N1 =>
  GS _ _ _ _ _ (hκ ns' N' h1 h2) ⟨N1.pre,N1.tk,N1.rel.fewer (c:=nmN scr z (N':Int)) fun x w e=>show lk (nmN scr z (N':Int)++[(kTurn,u)]) x = some w from lk_pre e⟩ .next
 refine one_st (stT_ok D S rowKs _) (κ:=kF fun fl σ'=>fl = .next∧∃ (ns':List Nat) (N':Nat),σ' = rst (nmT scr z (N':Int) u) L (nums ns')∧(∀ k∈ns',k < 1024)∧ns'.length≤ns.length + 1) ?_ H T1 R GE ?_
 ·rw [eqIf]
  induction q:ltI 0 (N:Int) using Bool.casesOn with
  | false=>exact kF_of ⟨rfl,ns,N,rfl,hns,Nat.le_succ _⟩
  | true =>
   dsimp only
   rw [fits_nums (Nat.le_of_lt hl),ifB_t]
   refine kF_of ⟨rfl,ns++[N % 1024],N / 1024,?_,?_,?_⟩
   ·rw [← nums_snoc,show Int.fmod (N:Int) 1024 = ((N % 1024:Nat):Int) from (Int.ofNat_fmod N 1024).symm,show Int.fdiv (N:Int) 1024 = ((N / 1024:Nat):Int) from (Int.ofNat_fdiv N 1024).symm]
   ·intro k hk
    rcases List.mem_append.mp hk with hk | hk
    ·exact hns k hk
    ·rw [List.mem_singleton.mp hk];exact Nat.mod_lt _ (by decide)
   ·rw [List.length_append];exact Nat.le_refl _
 ·intro ρ' σ' s' fl f hf N1 hi
  obtain ⟨rfl,ns',N',rfl,h1,h2⟩:=kF_ok hf
  cases hi
  exact wpAny_execs_nil (fin ρ' s' ns' N' h1 h2 N1)
theorem inLoop (D:Gd C TT) (S:StOK C TT) {scr:Nat} {z:Int} {L:List V} {ε:KX} {κ:KS}:∀ (l:List V) (N:Nat) (ns:List Nat),(∀ k∈ns,k < 1024)→ns.length + l.length≤10000 →
  (∀ (ns':List Nat) (N':Nat),(∀ k∈ns',k < 1024)→ns'.length≤ns.length + l.length→κ .next (rst (nmN scr z (N':Int)) L (nums ns')) = true) →
  forL (semL C rowKs inB) (asgC TT (compX TT 40 rowKs) rowKs (forT inFor)) l rT v (rst (nmN scr z (N:Int)) L (nums ns)) κ ε = true:=by
 intro lq
 induction lq with
 | nil =>
  intro N ns h1 _ hκ
  exact hκ ns N h1 (Nat.le_add_right _ _)
 | cons u l ih =>
  intro N ns h1 h2 hκ
  rw [List.length_cons] at h2
  show (asgC TT (compX TT 40 rowKs) rowKs (forT inFor)).a rT v u (rst (nmN scr z (N:Int)) L (nums ns)) (fun σ'=>semL C rowKs inB rT v σ' (forK κ (fun σ''=>forL (semL C rowKs inB) (asgC TT (compX TT 40 rowKs) rowKs (forT inFor)) l rT v σ'' κ ε)) ε) ε = true
  rw [eqT]
  refine inTurn D S h1 (by lia) fun ns' N' g1 g2=>?_
  exact ih N' ns' g1 (by lia) fun ns2 N2 q1 q2=>hκ ns2 N2 q1 (by rw [List.length_cons];lia)
theorem outTurn (D:Gd C TT) (S:StOK C TT) {scr:Nat} {z:Int} {L:List V} {ns:List Nat} {κ:KS} {ε:KX} (hns:∀ k∈ns,k < 1024) (hl:ns.length + 31≤10000)
  (hκ:∀ ns',(∀ k∈ns',k < 1024)→ns'.length≤ns.length + 31→κ .next (rst (nmR scr) L (nums ns')) = true):semL C rowKs rowB1 rT v (rst (nmC scr z) L (nums ns)) κ ε = true:=by
 refine semL_of fun A F env ρ s Q E H T1 R GS GE=>?_
 rw [rowB1_eq]
 obtain ⟨N,hN⟩:∃ N:Nat,∀ κ:KS,(compS TT rowKs 40 (stAt rowB1 0)).s rT v (rst (nmC scr z) L (nums ns)) κ ε = κ .next (rst (nmN scr z (N:Int)) L (nums ns)):=by
  induction z using Int.casesOn with
  | ofNat n=>exact ⟨n,fun κ=>eqb0p ..⟩
  | negSucc n=>exact ⟨n + 8,fun κ=>by rw [eqb0n];congr 3;lia⟩
 refine one_st (stT_ok D S rowKs _) (κ:=kF fun fl σ'=>fl = .next∧σ' = rst (nmN scr z (N:Int)) L (nums ns)) (by rw [hN];exact kF_of ⟨rfl,rfl⟩) H T1 R GE ?_
 intro ρ1 σ1 s1 fl f hf
 refine x0a2 (kF_ok hf :) fun q0q q1q=>?_;subst q0q;subst q1q
 intro N1 hi
 cases hi
 refine one_st (stT_ok D S rowKs _) (ε:=ε) (κ:=kF fun fl σ'=>fl = .next∧σ' = rst (nmN scr z (N:Int)) L (nums (ns++[N % 1024]))) ?_ (H.mono N1.pre) T1 N1.rel (GE.next N1) ?_
 ·rw [eqb1,fits_nums (by lia),ifB_t]
  refine kF_of ⟨rfl,?_⟩
  rw [← nums_snoc,show Int.fmod (N:Int) 1024 = ((N % 1024:Nat):Int) from (Int.ofNat_fmod N 1024).symm]
 intro ρ2 σ2 s2 fl f hf
 refine x0a2 (kF_ok hf :) fun q0q q1q=>?_;subst q0q;subst q1q
 intro N2 hi
 cases hi
 have N12:=N1.trans N2
 refine one_st (stT_ok D S rowKs _) (ε:=ε) (κ:=kF fun fl σ'=>fl = .next∧σ' = rst (nmN scr z ((N / 1024:Nat):Int)) L (nums (ns++[N % 1024]))) ?_ (H.mono N12.pre) T1 N12.rel (GE.next N12) ?_
 ·rw [eqb2,show Int.fdiv (N:Int) 1024 = ((N / 1024:Nat):Int) from (Int.ofNat_fdiv N 1024).symm]
  exact kF_of ⟨rfl,rfl⟩
 intro ρ3 σ3 s3 fl f hf
 refine x0a2 (kF_ok hf :) fun q0q q1q=>?_;subst q0q;subst q1q
 intro N3 hi
 cases hi
 have N123:=N12.trans N3
 rw [inFor_eq]
 have hns':∀ k∈ns++[N % 1024],k < 1024:=by
  intro k hk
  rcases List.mem_append.mp hk with hk | hk
  ·exact hns k hk
  ·rw [List.mem_singleton.mp hk];exact Nat.mod_lt _ (by decide)
 have hlen:(ns++[N % 1024]).length = ns.length + 1:=by rw [List.length_append];rfl
 refine one_st (forRb_ok D.gr (cxT_ok D S rowKs) (semL_ok (l:=inB)) inRange inStar) (ε:=ε) (κ:=kF fun fl σ'=>fl = .next∧∃ (ns':List Nat) (N':Nat),σ' = rst (nmN scr z (N':Int)) L (nums ns')∧(∀ k∈ns',k < 1024)∧ns'.length≤ns.length + 31) ?_ (H.mono N123.pre) T1 N123.rel (GE.next N123) ?_
 ·show evs (compX TT 40 rowKs) (cArgs (forI inFor)) rT v (rst (nmN scr z ((N / 1024:Nat):Int)) L (nums (ns++[N % 1024]))) (fun vs σ'=>rangeOf vs fun l=>forL (semL C rowKs inB) (asgC TT (compX TT 40 rowKs) rowKs (forT inFor)) l rT v σ' _ ε) ε = true
  rw [eqA (f:=fun l σ'=>forL (semL C rowKs inB) (asgC TT (compX TT 40 rowKs) rowKs (forT inFor)) l rT v σ' _ ε)]
  have h30:(rangeL 0 30).length = 30:=rangeL_length
  exact inLoop D S _ _ _ hns' (by lia) fun ns2 N2 q1 q2=>kF_of ⟨rfl,ns2,N2,rfl,q1,by lia⟩
 intro ρ4 σ4 s4 fl f hf N4 hi
 obtain ⟨rfl,ns',N',rfl,q1,q2⟩:=kF_ok hf
 cases hi
 have N5:=N123.trans N4
 exact wpAny_execs_nil (GS _ _ _ _ _ (hκ ns' q1 q2) ⟨N5.pre,N5.tk,N5.rel.fewer (c:=nmR scr) fun x w e=>show lk (nmR scr++[(kCell,V.int z),(kNumber,V.int (N':Int))]) x = some w from lk_pre e⟩ .next)
theorem outLoop (D:Gd C TT) (S:StOK C TT) {scr:Nat} {js:List Int} {ε:KX} {κ:KS} (hj:js.length≤40):∀ (f i:Nat) (ns:List Nat),64 - i = f→i≤js.length→(∀ k∈ns,k < 1024)→ns.length≤31 * i →
  (∀ ns':List Nat,(∀ k∈ns',k < 1024)→ns'.length≤31 * js.length→κ .next (rst (nmR scr) (js.map V.int) (nums ns')) = true) →
  forLs (semL C rowKs rowB1) (asgC TT (compX TT 40 rowKs) rowKs (forT rowFor)) (nc + 1) f i rT v (rst (nmR scr) (js.map V.int) (nums ns)) κ ε = true:=by
 intro nq
 induction nq with
 | zero =>
  intro i ns hf hi _ _ _
  exact absurd hf (Nat.ne_of_gt (Nat.sub_pos_of_lt (Nat.lt_of_le_of_lt (Nat.le_trans hi hj) (by decide))))
 | succ f ih =>
  intro i ns hf hi h1 h2 hκ
  show nthAt (nc + 1) i (rst (nmR scr) (js.map V.int) (nums ns)) (κ .next (rst (nmR scr) (js.map V.int) (nums ns))) (fun u=>(asgC TT (compX TT 40 rowKs) rowKs (forT rowFor)).a rT v u (rst (nmR scr) (js.map V.int) (nums ns)) (fun σ'=>semL C rowKs rowB1 rT v σ' (forK κ (fun σ''=>forLs (semL C rowKs rowB1) (asgC TT (compX TT 40 rowKs) rowKs (forT rowFor)) (nc + 1) f (i + 1) rT v σ'' κ ε)) ε) ε) = true
  rw [eqN,nth_eq,List.getElem?_map]
  induction e:js[i]? using Option.casesOn with
  | none =>
   dsimp only [Option.map]
   exact hκ ns h1 (Nat.le_trans h2 (Nat.mul_le_mul_left _ hi))
  | some z =>
   have hlt:=(List.getElem?_eq_some_iff.mp e).1
   dsimp only [Option.map]
   rw [eqC]
   refine outTurn D S h1 (by lia) fun ns' g1 g2=>?_
   exact ih (i + 1) ns' (by rw [Nat.sub_add_eq,hf];rfl) hlt g1 (by lia) hκ
end
end Mine
end
section
set_option maxHeartbeats 4000000
namespace Mine
structure RowOK (C:SC):Prop where
 keep:keepIn C.K (.ref rowA) = true
 def_:∃ fn fo fd,FnOK C TT fn rowA fo fd rowBody∧fn.params = [key "script"]∧fn.dflts = []∧fd.scope = rowSc
noncomputable def rowsS (c:List (Nat×V)):St:={ σc with cur:=c,led:=(nc + 2,.rows) :: σc.led,nxt:=nc + 3 }
theorem rowNoCells:noCells rowSc.names = true:=by kernel_rfl
theorem rowScript:rowSc.names.lookup ("script":Str) = some .local:=by kernel_rfl
set_option tactic.hygienic true in
theorem led_nc (x:O) (n:Nat) (o:O):lk ((nc + 2,x) :: σc.led) n = some o→∀ y z,lk ((nc + 2,x) :: (nc + 1,y) :: (nc,z) :: σc.led) n = some o:=fun e y z=>by
 rw [lk_cons] at e ⊢
 refine ifL (fun _=>?_) fun _=>?_
 ·rename_i q;rw [if_pos q] at e;exact e
 ·rename_i q
  rw [if_neg q] at e
  rw [lk_cons,lk_cons]
  have h1:lk σc.led (nc + 1) = none:=by kernel_rfl
  have h2:lk σc.led nc = none:=by kernel_rfl
  refine ifL (fun _=>?_) fun _=>?_
  ·rename_i q1;rw [← q1,h1] at e;exact nS' e
  ·refine ifL (fun _=>?_) fun _=>?_
   ·rename_i q1;rw [← q1,h2] at e;exact nS' e
   ·exact e
section
variable {C:SC} {F:Fm} {ρ ρ':Va} {σ σ':St} {s s':Shared} {A:Around} {env:Env} {ks:Kd} {v:Ve} {Q E:Value→Shared→Prop} {r:Rc}
theorem sliceTo (l:List V) (k:Nat):sliceL l none (some (Int.ofNat k)) = l.take k:=by
 rw [sliceL_eq]
 show List.drop 0 (List.take (match Nat.ble k l.length with | true=>k | false=>l.length) l) = _
 rw [List.drop_zero]
 induction q:Nat.ble k l.length using Bool.casesOn with
 | true=>rfl
 | false =>
  have:¬ k≤l.length:=fun h=>by rw [Nat.ble_eq_true_of_le h] at q;exact tf' q
  dsimp only
  rw [List.take_length,List.take_of_length_le (by lia)]
theorem nums_take (ns:List Nat):sliceL (nums ns) none (some 160) = nums (ns.take 160):=(sliceTo (nums ns) 160).trans (List.map_take ..).symm
theorem nums_rev (ns:List Nat):revL (nums ns) = nums ns.reverse:=by rw [revL_eq,nums,nums,List.map_reverse]
theorem expr_st {e:PySem.Expr} {c:Mine.C} {p:Pos} (hc:WC C ks r e c) (hi:isComp e = false):WSt C ks r (.Expr e p) ⟨fun r v σ κ ε=>c.x r v σ (fun _ σ'=>κ .next σ') ε⟩:=by
 intro v σ κ ε h A F env ρ s Q E H T1 R GS GE
 refine wpAny_Expr_any (hc.x v σ _ ε h A F env ρ s _ E H R ?_ GE) ?_ ?_
 ·intro ρ' σ' s' u uv hu N hv
  exact GS _ _ _ _ _ hu N .next
 ·unfold interactive;rw [H.kind];rfl
 ·induction e using Expr.casesOn <;> first | rfl | exact tf' hi
theorem for_iter (G:Gr C TT) {cx:PySem.Expr→Mine.C} (hc:WCx C ks r cx) {bd:Rc→Ve→St→KS→KX→Bool} {body:List PySem.Stmt} (hs:WS C ks (fun v σ κ ε=>bd r v σ κ ε) (execs body)) {t e:PySem.Expr} {c:Mine.C} {p:Pos} (he:WC C ks r e c) (hne:∀ a b c,e≠.Set a b c) :
  WSt C ks r (.For t e body [] p) ⟨fun r v σ κ ε=>c.x r v σ (fun u σ'=>forV bd (asgC TT cx ks t) u r v σ' κ ε) ε⟩:=by
 intro v σ κ ε h A F env ρ s Q E H T1 R GS GE
 have h':c.x r v σ (fun u σ'=>forV bd (asgC TT cx ks t) u r v σ' κ ε) ε = true:=h
 have hf:∀ x,foldedSetIterable e env x = pure x:=fun x=>by
  induction e using Expr.casesOn <;> first | rfl | exact absurd rfl (hne _ _ _)
 refine wpAny_For (he.x v σ _ ε h' A F env ρ s _ E H R ?_ GE) hf
 intro ρ1 σ1 s1 u x hu N hx
 induction hx using IsV.casesOn with
 | @tup l a vs ht hl=>exact forTup_ok G hc hs (H.mono N.pre) T1 N.rel ht hl (GS.next N) (GE.next N) hu
 | @loc n a hn=>exact forLst_ok G hc hs (H.mono N.pre) T1 N.rel hn (GS.next N) (GE.next N) hu
 | _=>exact ft' hu
theorem rowBody_ok (D:Gd C TT) (S:StOK C TT) {scr:Nat} {is:List Int} (hS:ScrOK C scr is) {Q:Flow→Shared→Prop} {E:Value→Shared→Prop} (H:EnvOK C A F env rowKs v ρ) (T1:Top1 F env) (R:Rel C F ρ { σc with cur:=[(kScript,.top scr)] } s)
  (hQ:∀ ρ' a s',Next C F ρ s.heap ρ' (rowsS []) s'→ρ'.adr[nc + 2]? = some a→Q (.ret (.ref a)) s'):wpAny (model PW C.w) A (execs rowBody env) Q E s:=by
 refine wpAny_mono (E:=fun _ _=>False) ?_ (fun _ _ x=>x) fun _ _ x=>x.elim
 rw [rowBody_eq]
 refine one_st (stT_ok D S rowKs _) (ε:=fun _ _=>false) (κ:=kF fun fl σ'=>fl = .next∧σ' = { σc with cur:=nmR scr,led:=(nc,.list []) :: σc.led,nxt:=nc + 1 }) (by rw [eqS0];exact kF_of ⟨rfl,rfl⟩) H T1 R noE_ok ?_
 intro ρ1 σ1 s1 fl f hf
 refine x0a2 (kF_ok hf :) fun q0q q1q=>?_;subst q0q;subst q1q
 intro N1 hi
 cases hi
 rw [rowFor_eq]
 have hj:sliceL (is.map V.int) none (some 40) = (is.take 40).map V.int:=(sliceTo (is.map V.int) 40).trans (List.map_take ..).symm
 have hj40:(is.take 40).length≤40:=by rw [List.length_take];exact Nat.min_le_left _ _
 refine one_st (for_iter D.gr (cxT_ok D S rowKs) (semL_ok (l:=rowB1)) (cSl_ok D.gr (cxT_ok D S rowKs) hS) (fun _ _ _ q=>by cases q)) (ε:=fun _ _=>false) (κ:=kF fun fl σ'=>fl = .next∧∃ ns:List Nat,σ' = rst (nmR scr) ((is.take 40).map V.int) (nums ns)∧(∀ k∈ns,k < 1024)∧ns.length≤10000) ?_ (H.mono N1.pre) T1 N1.rel noE_ok ?_
 ·show (cSl scr is "script" (sHi (forI rowFor))).x rT v { σc with cur:=nmR scr,led:=(nc,.list []) :: σc.led,nxt:=nc + 1 } (fun u σ'=>forV (semL C rowKs rowB1) (asgC TT (compX TT 40 rowKs) rowKs (forT rowFor)) u rT v σ' _ _) _ = true
  rw [eqSl,Nat.beq_refl,hj]
  dsimp only
  have hfit:fitsN (len ((is.take 40).map V.int)) = true:=by
   unfold fitsN
   rw [len_eq,List.length_map]
   exact Nat.ble_eq.mpr (by lia)
  rw [hfit,ifB_t]
  show forLs (semL C rowKs rowB1) (asgC TT (compX TT 40 rowKs) rowKs (forT rowFor)) (nc + 1) 64 0 rT v (rst (nmR scr) ((is.take 40).map V.int) (nums [])) _ _ = true
  exact outLoop D S hj40 64 0 [] rfl (Nat.zero_le _) (fun k hk=>(nomatch hk)) (Nat.zero_le _) fun ns' g1 g2=>kF_of ⟨rfl,ns',rfl,g1,by lia⟩
 intro ρ2 σ2 s2 fl f hf N2 hi
 obtain ⟨rfl,ns,rfl,g1,g2⟩:=kF_ok hf
 cases hi
 have N12:=N1.trans N2
 refine one_st (stT_ok D S rowKs _) (ε:=fun _ _=>false) (κ:=kF fun fl σ'=>fl = .next∧σ' = rst2 scr ((is.take 40).map V.int) (nums ns) (nums (ns.take 160))) ?_ (H.mono N12.pre) T1 N12.rel noE_ok ?_
 ·rw [eqS2,fits_nums g2,ifB_t,nums_take,fits_nums (Nat.le_trans (by rw [List.length_take];exact Nat.min_le_right _ _) g2),ifB_t]
  exact kF_of ⟨rfl,rfl⟩
 intro ρ3 σ3 s3 fl f hf
 refine x0a2 (kF_ok hf :) fun q0q q1q=>?_;subst q0q;subst q1q
 intro N3 hi
 cases hi
 have N123:=N12.trans N3
 rw [rowRev_eq]
 refine one_st (r:=rT) (expr_st (cRv_ok D.gr revLine) rfl) (ε:=fun _ _=>false) (κ:=kF fun fl σ'=>fl = .next∧σ' = rst2 scr ((is.take 40).map V.int) (nums ns) (nums (ns.take 160).reverse)) ?_ (H.mono N123.pre) T1 N123.rel noE_ok ?_
 ·refine Eq.trans (eqR rT v scr ((is.take 40).map V.int) (nums ns) (nums (ns.take 160)) (fun _ σ'=>(kF fun fl σ'=>fl = .next∧σ' = rst2 scr ((is.take 40).map V.int) (nums ns) (nums (ns.take 160).reverse)) .next σ') (fun _ _=>false)) ?_
  rw [fits_nums (Nat.le_trans (by rw [List.length_take];exact Nat.min_le_right _ _) g2),ifB_t,nums_rev]
  exact kF_of ⟨rfl,rfl⟩
 intro ρ4 σ4 s4 fl f hf
 refine x0a2 (kF_ok hf :) fun q0q q1q=>?_;subst q0q;subst q1q
 intro N4 hi
 cases hi
 have N1234:=N123.trans N4
 refine one_st (stT_ok D S rowKs _) (ε:=fun _ _=>false) (κ:=kF fun fl σ'=>fl = .ret (.loc (nc + 2))∧σ' = rst2 scr ((is.take 40).map V.int) (nums ns) (nums (ns.take 160).reverse)) (by rw [eqS4];exact kF_of ⟨rfl,rfl⟩) (H.mono N1234.pre) T1 N1234.rel noE_ok ?_
 intro ρ5 σ5 s5 fl f hf
 refine x0a2 (kF_ok hf :) fun q0q q1q=>?_;subst q0q;subst q1q
 intro N5 hi
 cases hi with
 | ret hv =>
 refine x1a2 (hv.loc_inv :) fun a q1q ha=>?_;subst q1q
 have N6:=N1234.trans N5
 have hat:(rst2 scr ((is.take 40).map V.int) (nums ns) (nums (ns.take 160).reverse)).at (nc + 2) = some (.list (nums (ns.take 160).reverse)):=by
  show lk ((nc + 2,O.list (nums (ns.take 160).reverse)) :: _) (nc + 2) = _
  rw [lk_cons,if_pos rfl]
 refine x1a2 (N6.rel.thing ha hat :) fun ws hpl hvs=>?_
 have hlw:ws.length≤160:=by
  rw [← hvs.length,nums,List.length_map,List.length_reverse,List.length_take]
  exact Nat.min_le_left _ _
 have hall:∀ k∈(ns.take 160).reverse,k < 1024:=fun k hk=>g1 k (List.mem_of_mem_take (List.mem_reverse.mp hk))
 have R7:=N6.rel.view (o':=.rows) ha ⟨ws,hpl,hlw,of_nums hall hvs⟩
 have R8:=(R7.fewer (c:=[]) fun x u e=>by exact nS' e).relet (l:=(nc + 2,.rows) :: σc.led) fun n o e=>by
  show lk (up ((nc + 2,O.list (nums (ns.take 160).reverse)) :: (nc + 1,.list ((is.take 40).map V.int)) :: (nc,.list (nums ns)) :: σc.led) (nc + 2) .rows) n = some o
  rw [up_cons,if_pos rfl]
  exact led_nc _ n o e _ _
 exact hQ ρ5 a s5 ⟨N6.pre,N6.tk,R8⟩ ha
theorem row_ok (D:Gd C TT) (S:StOK C TT) (K:RowOK C) {scr:Nat} {is:List Int} (hS:ScrOK C scr is) {d:Nat} {c:List (Nat×V)} (h1:1≤d) (hd:d≤50) (Ar:Arnd A F d) (R:Rel C F ρ { σc with cur:=c } s)
  (hQ:∀ ρ' a s',Next C F ρ s.heap ρ' (rowsS c) s'→ρ'.adr[nc + 2]? = some a→Q (.ref a) s'):codeAny (model PW C.w) A (.call (.ref rowA) ⟨[.ref scr],[]⟩) (CallR Q E) s:=by
 have G:=D.gr
 refine x3a4 (K.def_ :) fun fn fo fd KF hpar hdf hsc=>?_
 refine x0a3 (okF_ok KF.scope :) fun hk hgen hco=>?_
 have hroom:A.depth < recursionLimit:=by
  have:=Ar.depth
  have e1:claimMargin = 300:=rfl
  have e2:recursionLimit = 1000:=rfl
  lia
 have hb:bindP fn.params fn.dflts [.top scr] = some [(key "script",.top scr)]:=by rw [hpar,hdf];rfl
 refine codeAny_call_function hroom (G.Xs R _ _ KF.at_) KF.data hco hgen KF.bodyE (R.code G KF.code) ?_
 refine enter_ok (κ:=fun _ σ1=>kP (fun _ σ2=>σ2 = { σc with cur:=c }) .none σ1) G KF hb (.cons .top .nil) R ?_ fun env cs σ1 ρ1 s1 hκ he R1 hp htk hm=>?_
 ·rw [KF.kinds,kindsOf_map,hsc,lay_none rowNoCells];exact kP_of rfl
 have hσ:=kP_ok hκ
 subst hσ
 refine ⟨G.lims R1,codeAny_func ?_⟩
 have hqual:env.scope = fd.scope:=by rw [he]
 have H:EnvOK C (A.deeper env) (Mine.inner F { σc with cur:=c } env s.heap.objs.size) env rowKs ⟨cs,d + 1⟩ ρ1:={
  glob:=by rw [he];exact ⟨rfl,rfl⟩
  loc:=by rw [he];rfl
  kind:=by rw [hqual];exact hk
  ks:=by rw [hqual,hsc];rfl
  cells:=hm
  frames:=by show A.frames.map _ = _;rw [Ar.frames];rfl
  hand:=Ar.hand
  depth:=by show A.depth + 1≤2 + claimMargin + 3 * (d + 1);have:=Ar.depth;lia
  units:=by show A.units + 3≤20 + 20 * (d + 1);have:=Ar.units;lia
  dep:=by show d + 1≤60;lia
  law:=fun q=>by have:d + 1 = 1:=q;lia }
 have T1:Top1 (Mine.inner F { σc with cur:=c } env s.heap.objs.size) env:=⟨⟨F.fs,rfl⟩,by rw [he];rfl⟩
 have hl:locals fn.kinds [(key "script",V.top scr)] = [(kScript,.top scr)]:=by
  rw [KF.kinds,hsc]
  show isLoc (lk (kindsOf rowSc) (key "script")) (key "script",V.top scr) [] = _
  rw [lk_kindsOf,rowScript]
  rfl
 rw [hl] at R1
 refine rowBody_ok D S hS H T1 R1 fun ρ' a s' N ha=>?_
 exact hQ ρ' a s' (Next.leave R hp htk N) ha
end
end Mine
end
section
set_option maxHeartbeats 4000000
noncomputable section
namespace Mine
noncomputable def lawKs:Kd:=kindsOf lawSc
noncomputable def v0:Ve:=⟨cs0,1⟩
noncomputable def lseg (n k:Nat):List PySem.Stmt:=takeL k (dropL n lawBody)
noncomputable def lst (n:Nat):PySem.Stmt:=stAt lawBody n
noncomputable def cellNo (x:Nat):Nat:=match lk cs0 x with | some n=>n | none=>0
noncomputable def npos:Nat:=cellNo (key "position")
noncomputable def ncnt:Nat:=cellNo (key "count")
noncomputable def kW:Nat:=key "wide"
noncomputable def kOuter:Nat:=key "outer"
noncomputable def kSigned:Nat:=key "signed"
noncomputable def kBits:Nat:=key "bits"
noncomputable def kInner:Nat:=key "inner_bits"
noncomputable def kStore:Nat:=key "store"
noncomputable def s0:St:=rowsS [(kRow,.loc (nc + 2))]
noncomputable def s1 (w c o:Nat) (sg:V) (y:Nat):St:={ s0 with cur:=[(kRow,.loc (nc + 2)),(kW,.int (.ofNat w)),(kOuter,.int (.ofNat o)),(kSigned,sg)],led:=up s0.led ncnt (.cell (some (.int (.ofNat c)))),syn:=y }
noncomputable def isNF (fl:Fl):Bool:=match fl with | .next=>true | _=>false
noncomputable def isNC (fl:Fl):Bool:=match fl with | .next=>true | .cont=>true | _=>false
noncomputable def runL (l:List PySem.Stmt) (σ:St) (κ:KS):Bool:=css (compS TT lawKs 40) l rT v0 σ κ (fun _ _=>false)
noncomputable def natN (x:Option V) (f:Nat→Bool):Bool:=match x with | some u=>(match u with | .int i=>(match i with | .ofNat n=>f n | _=>false) | _=>false) | none=>false
noncomputable def boolN (x:Option V) (f:Bool→Bool):Bool:=match x with | some u=>(match u with | .bool b=>f b | _=>false) | none=>false
noncomputable def cellAt (n:Nat) (σ:St):Option V:=match σ.at n with | some o=>(match o with | .cell v=>v | _=>none) | none=>none
noncomputable def orB (a b:Bool):Bool:=match a with | true=>true | false=>b
noncomputable def okCombo (w c o:Nat):Bool:=andB (andB (Nat.ble 1 w) (Nat.ble w 4)) (andB (andB (Nat.ble 1 c) (Nat.ble c 4)) (orB (Nat.beq o w) (orB (Nat.beq o (w * c)) (orB (Nat.beq o (w + 1)) (orB (Nat.beq o 1) (Nat.beq o c))))))
noncomputable def combo (σ:St):Bool:=natN (lk σ.cur kW) fun w=>natN (lk σ.cur kOuter) fun o=>natN (cellAt ncnt σ) fun c=>boolN (lk σ.cur kSigned) fun b=>andB (okCombo w c o) (backOK (s1 w c o (.bool b) 0) σ)
noncomputable def chk14:Bool:=runL (lseg 1 4) s0 fun fl σ=>andB (isNF fl) (combo σ)
noncomputable def crlOf (x:Option V) (n:Nat) (σ:St) (f:Nat→St→Bool):Bool:=match x with
 | some u=>(match u with
  | .loc b=>(match σ.at b with
   | some o=>(match o with | .list xs=>ifB (andB (Nat.beq (len xs) n) (fits4 xs)) (f b (σ.put b (.crl n))) false | _=>false)
   | none=>false)
  | _=>false)
 | none=>false
noncomputable def stvOf (x:Option V) (ws:List (Int×Nat)) (σ:St) (f:Nat→St→Bool):Bool:=match x with
 | some u=>(match u with
  | .loc m=>(match σ.at m with
   | some o=>(match o with | .edict=>f m (σ.put m (.stv ws)) | _=>false)
   | none=>false)
  | _=>false)
 | none=>false
noncomputable def valsOf (σ:St):Option V:=match lk σ.cur kStore with | some u=>attrOf TT u (key "values") σ | none=>none
noncomputable def wsOf (w c o:Nat):List (Int×Nat):=[(0,w),(1,o),(2,c),(3,1)]
noncomputable def posAt (σ:St) (p:Nat):St:=σ.put npos (.cell (some (.int (.ofNat p))))
noncomputable def isCellO (x:Option O):Bool:=match x with | some o=>(match o with | .cell _=>true | _=>false) | none=>false
noncomputable def isCell (n:Nat) (σ:St):Bool:=isCellO (σ.at n)
noncomputable def posFor:PySem.Stmt:=lst 14
noncomputable def bodyB:List PySem.Stmt:=forB posFor
noncomputable def bseg (n k:Nat):List PySem.Stmt:=takeL k (dropL n bodyB)
noncomputable def openAll (σ:St) (m b ib w c o:Nat) (tb ti:Option Nat):St:=openC (openC (openS σ m (wsOf w c o)) b o tb) ib w ti
noncomputable def segR (n k:Nat) (ok:Fl→Bool) (σ:St) (m b ib w c o:Nat) (tb ti:Option Nat):Bool:=runL (bseg n k) (openAll σ m b ib w c o tb ti) fun fl σ'=>andB (ok fl) (backOK σ σ')
noncomputable def isCrl (n b:Nat) (σ:St):Bool:=match σ.at b with | some o=>(match o with | .crl m=>Nat.beq m n | _=>false) | none=>false
noncomputable def sameW (p q:Int×Nat):Bool:=andB (beqI p.1 q.1) (Nat.beq p.2 q.2)
noncomputable def isStvAt (ws:List (Int×Nat)) (m:Nat) (σ:St):Bool:=match σ.at m with | some o=>(match o with | .stv v=>all2 sameW v ws | _=>false) | none=>false
noncomputable def readyB (m b ib w c o:Nat) (σ:St):Bool:=andB (notB (Nat.beq b ib)) (andB (isStvAt (wsOf w c o) m σ) (andB (isCrl o b σ) (isCrl w ib σ)))
noncomputable def turnB (tell:Bool) (m b ib w c o:Nat) (σ:St):Bool:=match tell with
 | false=>andB (segR 0 5 isNF σ m b ib w c o none none) (andB (segR 5 5 isNF σ m b ib w c o none none) (segR 10 10 isNC σ m b ib w c o none none))
 | true=>andB (forkN 4 fun t=>segR 0 5 isNF σ m b ib w c o (some t) none) (andB (forkN 4 fun t=>segR 5 5 isNF σ m b ib w c o none (some t)) (segR 10 10 isNC σ m b ib w c o none none))
noncomputable def loopB (tell:Bool) (b ib w c o:Nat) (m:Nat) (σ:St):Bool:=andB (isCell npos σ) (andB (Nat.ble σ.fz npos) (andB (natN (cellAt ncnt σ) fun k=>Nat.beq k c) (forkN c fun p=>andB (readyB m b ib w c o (posAt σ p)) (andB (turnB tell m b ib w c o (posAt σ p)) (backOK s0 (posAt σ p))))))
noncomputable def runC5 (w c o:Nat) (sg:V) (y:Nat) (tell:Bool):Bool:=runL (lseg 5 2) (s1 w c o sg y) fun fl σ=>andB (isNF fl) (crlOf (lk σ.cur kBits) o σ fun b σ=>crlOf (lk σ.cur kInner) w σ fun ib σ =>
 runL (lseg 7 7) σ fun fl σ=>andB (isNF fl) (stvOf (valsOf σ) (wsOf w c o) σ (loopB tell b ib w c o)))
end Mine
end
end
section
noncomputable section
namespace Mine
noncomputable def nports:Nat:=cellNo (key "ports")
noncomputable def nconns:Nat:=cellNo (key "conns")
noncomputable def nkind:Nat:=cellNo (key "kind")
noncomputable def kLap:Nat:=key "lap"
noncomputable def portV (n:Nat):V:=.tup (takeL n [.str "x",.str "y",.str "z"])
noncomputable def s2 (n y:Nat) (xs:List V):St:={ s0 with led:=(nc + 3,.list xs) :: up (up s0.led nports (.cell (some (portV n)))) nconns (.cell (some (.loc (nc + 3)))),nxt:=nc + 4,syn:=y }
noncomputable def opqs (k:Nat):Nat→List V:=Nat.rec (motive:=fun _=>Nat→List V) (fun _=>[]) (fun _ ih i=>.opq i :: ih (i + 1)) k
noncomputable def nmV (i:Nat):V:=match i with
 | 0=>.str "x" | 1=>.str "y" | 2=>.str "z" | 3=>.str "w" | _=>.none
noncomputable def told (pre:List Nat):Nat→List V:=List.rec (fun _=>[]) (fun p _ ih i=>.tup [nmV p,.opq i] :: ih (i + 1)) pre
noncomputable def s4 (n k:Nat) (pre:List Nat):St:=s2 n (k + len pre) (app (told pre k) (opqs (k - len pre) (len pre)))
noncomputable def lapFor:PySem.Stmt:=lst 17
noncomputable def lapB:List PySem.Stmt:=forB lapFor
noncomputable def isNm (u:V):Bool:=match u with | .none=>true | .str x=>orB (sameSt x "x") (orB (sameSt x "y") (orB (sameSt x "z") (sameSt x "w"))) | _=>false
noncomputable def isEx (u:V):Bool:=match u with | .none=>true | .tup _=>true | _=>false
noncomputable def isPr (u:V):Bool:=match u with | .tup l=>(match l with | [a,b]=>andB (isNm a) (isEx b) | _=>false) | _=>false
noncomputable def moreOK (n k:Nat) (σ:St):Bool:=andB (match σ.at (nc + 3) with
 | some o=>(match o with | .list ys=>(match revL ys with | u :: zs=>andB (isPr u) (all2 sameV (revL (opqs k 0)) zs) | []=>false) | _=>false)
 | none=>false) (backOK { s2 n k [] with led:=dropL 1 (s2 n k []).led } σ)
noncomputable def lapOK (n k:Nat):Bool:=runL lapB { s2 n k (opqs k 0) with cur:=[(kRow,.loc (nc + 2)),(kLap,.int (.ofNat k))] } fun fl σ=>andB (isNF fl) (moreOK n k σ)
noncomputable def run18 (σ:St):Bool:=runL [lst 18] σ fun fl σ'=>andB (isNF fl) (backOK s0 σ')
noncomputable def lz (n k f:Nat):List Nat→Bool:=Nat.rec (motive:=fun _=>List Nat→Bool) (fun pre=>run18 (s4 n k pre)) (fun _ ih pre=>orB (run18 (s4 n k pre)) (andB (Nat.ble (len pre + 1) k) (forkN 5 fun i=>ih (app pre [i])))) f
noncomputable def kindFor:PySem.Stmt:=lst 19
noncomputable def kindB:List PySem.Stmt:=forB kindFor
noncomputable def kinds:List Str:=["and","xnor","buf","not","bufif0","notif1","nmos","pullup","pulldown"]
noncomputable def s5 (x:Option Str):St:={ s0 with led:=(nc + 3,.list (kinds.map V.str)) :: up s0.led nkind (.cell (match x with | some x=>some (.str x) | none=>none)),nxt:=nc + 4 }
noncomputable def kindOK (x:Str):Bool:=runL kindB (s5 (some x)) fun fl σ=>andB (isNF fl) (backOK (s5 (some x)) σ)
end Mine
end
section
open PySem PySem.W Mine
theorem Mine.eq15 (κ:KS) (ε:KX):css (compS TT lawKs 40) (lseg 15 2) rT v0 s0 κ ε = andB (κ .next (s2 3 0 [])) (andB (κ .next (s2 2 0 [])) (andB (κ .next (s2 1 0 [])) true)):=by kernel_rfl
end
end
section
set_option maxHeartbeats 4000000
namespace Mine
theorem lawBody_eq:lawBody = lst 0 :: (lseg 1 4++(lseg 5 2++(lseg 7 7++(posFor :: (lseg 15 2++(lapFor :: ([lst 18]++(kindFor :: ([lst 20]++[]))))))))):=by kernel_rfl
theorem posFor_eq:posFor = .For (forT posFor) (.Call (cFun (forI posFor)) (cArgs (forI posFor)) [] (cPos (forI posFor))) bodyB [] (forP posFor):=by kernel_rfl
theorem lapFor_eq:lapFor = .For (forT lapFor) (.Call (cFun (forI lapFor)) (cArgs (forI lapFor)) [] (cPos (forI lapFor))) lapB [] (forP lapFor):=by kernel_rfl
theorem kindFor_eq:kindFor = .For (forT kindFor) (forI kindFor) kindB [] (forP kindFor):=by kernel_rfl
theorem bodyB_eq:bodyB = bseg 0 5++(bseg 5 5++(bseg 10 10++[])):=by kernel_rfl
theorem posRange:isRange TT lawKs (cFun (forI posFor)) = true:=by kernel_rfl
theorem posStar:noStar (cArgs (forI posFor)) = true:=by kernel_rfl
theorem lapRange:isRange TT lawKs (cFun (forI lapFor)) = true:=by kernel_rfl
theorem lapStar:noStar (cArgs (forI lapFor)) = true:=by kernel_rfl
section
variable (σ:St) (u:V) (κL:KL) (κ:KS) (κx:KX) (ε:KX) (k:St→Bool)
theorem eqPos:evs (compX TT 40 lawKs) (cArgs (forI posFor)) rT v0 σ κL ε = retO (fun u σ'=>κL [u] σ') σ (cellAt ncnt σ):=by kernel_rfl
theorem eqPosT:(asgC TT (compX TT 40 lawKs) lawKs (forT posFor)).a rT v0 u σ k ε = stO k (match σ.at npos with | some o=>(match o with | .cell _=>σ.putZ npos (.cell (some u)) | _=>none) | none=>none):=by kernel_rfl
end
section
variable {C:SC} {F:Fm} {ρ ρ':Va} {σ σ':St} {s s':Shared} {A:Around} {env:Env} {v:Ve} {Q:Flow→Shared→Prop} {E:Value→Shared→Prop} {r:Rc}
theorem noGo {ρ:Va} {h:Heap}:GoE C F ρ h (fun _ _=>false) E:=fun _ _ _ _ _ q=>(Bool.false_ne_true q).elim
theorem run_app (D:Gd C TT) (S:StOK C TT):∀ (l1:List PySem.Stmt) {l2:List PySem.Stmt} {σ:St} {κ:KS} {ρ:Va} {s:Shared},runL l1 σ κ = true→EnvOK C A F env lawKs v0 ρ→Top1 F env→Rel C F ρ σ s →
  (∀ ρ' σ' s' fl f,κ fl σ' = true→Next C F ρ s.heap ρ' σ' s'→IsFl ρ' s'.heap fl f→match f with | .next=>wpAny (model PW C.w) A (execs l2 env) Q E s' | f=>Q f s')→wpAny (model PW C.w) A (execs (l1++l2) env) Q E s:=by
 intro lq
 induction lq with
 | nil =>
  intro l2 σ κ ρ s h H T1 R hQ
  exact hQ ρ σ s .next .next h (.here R) .next
 | cons st l1 ih =>
  intro l2 σ κ ρ s h H T1 R hQ
  have h':(compS TT lawKs 40 st).s rT v0 σ (ssK κ (fun σ'=>runL l1 σ' κ)) (fun _ _=>false) = true:=h
  refine one_st (stT_ok D S lawKs st) h' H T1 R noGo ?_
  intro ρ1 σ1 s1 fl f hf N hi
  cases hi with
  | next=>exact ih hf (H.mono N.pre) T1 N.rel fun ρ' σ' s' fl f hf N' hi=>hQ ρ' σ' s' fl f hf (N.trans N') hi
  | ret hv=>exact hQ ρ1 σ1 s1 _ _ hf N (.ret hv)
  | cont=>exact hQ ρ1 σ1 s1 _ _ hf N .cont
theorem isNF_ok {fl:Fl} {f:Flow} {h:Heap} (h1:isNF fl = true) (hi:IsFl ρ h fl f):f = .next:=by cases hi <;> first | rfl | exact ft' h1
theorem isNC_ok {fl:Fl} {f:Flow} {h:Heap} (h1:isNC fl = true) (hi:IsFl ρ h fl f):(fl = .next∧f = .next)∨(fl = .cont∧f = .cont):=by cases hi <;> first | exact .inl ⟨rfl,rfl⟩ | exact .inr ⟨rfl,rfl⟩ | exact ft' h1
theorem ClV.int {i:Int}:ClV ρ (.int i):=⟨default,.int i 0,.int⟩
theorem ClV.bool {b:Bool}:ClV ρ (.bool b):=⟨default,.bool b,.bool⟩
theorem crl_view {b n:Nat} {xs:List V} (R:Rel C F ρ σ s) (e:σ.at b = some (.list xs)) (h1:Nat.beq (len xs) n = true) (h2:fits4 xs = true):Rel C F ρ (σ.put b (.crl n)) s:=by
 obtain ⟨a,ha,vs,hl,hv⟩:=R.led b _ e
 exact R.view ha ⟨vs,hl,by rw [← hv.length,← len_eq];exact Nat.eq_of_beq_eq_true h1,fits4_ok h2 hv⟩
theorem crlOf_ok {x:Option V} {n:Nat} {f:Nat→St→Bool} (h:crlOf x n σ f = true) (R:Rel C F ρ σ s):∃ b,f b (σ.put b (.crl n)) = true∧Rel C F ρ (σ.put b (.crl n)) s:=by
 refine x1a2 (mOV h ft :) fun u _ h=>?_
 refine x1a2 (mLoc h ft :) fun b _ h=>?_
 refine x1a2 (mSome h ft :) fun o e h=>?_
 induction o using O.casesOn with
 | list xs =>
  refine x0a2 (ifB_ok h :) fun h1 h2=>?_
  refine x0a2 (andB_ok h1 :) fun h3 h4=>?_
  exact ⟨b,h2,crl_view R e h3 h4⟩
 | _=>exact ft' h
theorem stvOf_ok {x:Option V} {ws:List (Int×Nat)} {f:Nat→St→Bool} (h:stvOf x ws σ f = true) (R:Rel C F ρ σ s):∃ m,f m (σ.put m (.stv ws)) = true∧Rel C F ρ (σ.put m (.stv ws)) s:=by
 refine x1a2 (mOV h ft :) fun u _ h=>?_
 refine x1a2 (mLoc h ft :) fun m _ h=>?_
 refine x1a2 (mSome h ft :) fun o e h=>?_
 induction o using O.casesOn with
 | edict =>
  refine x1a2 (R.led m _ e :) fun a ha io=>?_
  exact ⟨m,h,R.view ha (stv_of_edict io)⟩
 | _=>exact ft' h
theorem isCrl_ok {n b:Nat} (h:isCrl n b σ = true):σ.at b = some (.crl n):=by
 refine x1a2 (mSome h ft :) fun o e h=>?_
 induction o using O.casesOn with
 | crl k=>rw [e,Nat.eq_of_beq_eq_true h]
 | _=>exact ft' h
theorem sameW_ok {p q:Int×Nat} (h:sameW p q = true):p = q:=by
 refine x0a2 (andB_ok h :) fun a b=>?_
 obtain ⟨p1,p2⟩:=p
 obtain ⟨q1,q2⟩:=q
 have a':=(beqI_eq _ _).symm.trans a
 rw [show p1 = q1 from of_decide_eq_true a',show p2 = q2 from Nat.eq_of_beq_eq_true b]
theorem isStvAt_ok {ws:List (Int×Nat)} {m:Nat} (h:isStvAt ws m σ = true):σ.at m = some (.stv ws):=by
 refine x1a2 (mSome h ft :) fun o e h=>?_
 induction o using O.casesOn with
 | stv v=>rw [e,all2_ok sameW_ok h]
 | _=>exact ft' h
theorem isCell_ok {n:Nat} (h:isCell n σ = true):∃ v,σ.at n = some (.cell v):=by
 refine x1a2 (mSome h ft :) fun o e h=>?_
 induction o using O.casesOn with
 | cell v=>exact ⟨_,e⟩
 | _=>exact ft' h
theorem natN_ok {x:Option V} {f:Nat→Bool} (h:natN x f = true):∃ n:Nat,x = some (.int (.ofNat n))∧f n = true:=by
 refine x1a2 (mOV h ft :) fun u e h=>?_
 refine x1a2 (mInt h ft :) fun i e2 h=>?_
 rw [e,e2]
 induction i using Int.casesOn with
 | ofNat n=>exact ⟨_,rfl,h⟩
 | negSucc n=>exact ft' h
theorem boolN_ok {x:Option V} {f:Bool→Bool} (h:boolN x f = true):∃ b:Bool,x = some (.bool b)∧f b = true:=by
 refine x1a2 (mOV h ft :) fun u e h=>?_
 rw [e]
 induction u using V.casesOn with
 | bool b=>exact ⟨_,rfl,h⟩
 | _=>exact ft' h
theorem St.at_openC {b n m:Nat} {t:Option Nat} (h:m≠b):(openC σ b n t).at m = σ.at m:=by
 show (σ.put b _).at m = _
 rw [St.at_put,if_neg h]
theorem St.at_openS {m n:Nat} {ws:List (Int×Nat)} (h:n≠m):(openS σ m ws).at n = σ.at n:=by
 show (σ.put m _).at n = _
 rw [St.at_put,if_neg h]
theorem wsOf_nodup (w c o:Nat):∀ p∈wsOf w c o,(wsOf w c o).lookup p.1 = some p.2:=by
 intro p hp
 simp only [wsOf,List.mem_cons,List.not_mem_nil,or_false] at hp
 rcases hp with rfl | rfl | rfl | rfl <;> rfl
theorem ready_ok {m b ib w c o:Nat} (hr:readyB m b ib w c o σ = true):σ.at m = some (.stv (wsOf w c o))∧σ.at b = some (.crl o)∧σ.at ib = some (.crl w)∧b≠m∧ib≠m∧ib≠b:=by
 refine x0a2 (andB_ok hr :) fun h1 h2=>?_
 refine x0a2 (andB_ok h2 :) fun h2 h3=>?_
 refine x0a2 (andB_ok h3 :) fun h3 h4=>?_
 have hm:=isStvAt_ok h2
 have hb:=isCrl_ok h3
 have hib:=isCrl_ok h4
 refine ⟨hm,hb,hib,fun q=>?_,fun q=>?_,fun q=>?_⟩
 ·rw [q,hm] at hb;cases hb
 ·rw [q,hm] at hib;cases hib
 ·rw [q,Nat.beq_refl] at h1;exact ft' h1
theorem open_ok {m b ib w c o:Nat} (R:Rel C F ρ σ s) (hr:readyB m b ib w c o σ = true):∃ ρ',ρ.le ρ'∧Rel C F ρ' (openAll σ m b ib w c o none none) s:=by
 refine x0a6 (ready_ok hr :) fun hm hb hib n1 n2 n3=>?_
 refine x1a2 (openS_ok R hm (wsOf_nodup w c o) :) fun ρ1 l1 R1=>?_
 refine x1a2 (openC_ok R1 ((St.at_openS n1).trans hb) :) fun ρ2 l2 R2=>?_
 refine x1a2 (openC_ok R2 (((St.at_openC n3).trans (St.at_openS n2)).trans hib) :) fun ρ3 l3 R3=>?_
 exact ⟨ρ3,(l1.trans l2).trans l3,R3⟩
theorem open_b {m b ib w c o:Nat} (R:Rel C F ρ σ s) (hr:readyB m b ib w c o σ = true) (ho:1≤o):∃ t ρ',t < 4∧ρ.le ρ'∧Rel C F ρ' (openAll σ m b ib w c o (some t) none) s:=by
 refine x0a6 (ready_ok hr :) fun hm hb hib n1 n2 n3=>?_
 obtain ⟨k,rfl⟩:∃ k,o = k + 1:=⟨o - 1,by lia⟩
 refine x1a2 (openS_ok R hm (wsOf_nodup w c _) :) fun ρ1 l1 R1=>?_
 refine x2a3 (openCL_ok R1 ((St.at_openS n1).trans hb) :) fun t ρ2 ht l2 R2=>?_
 refine x1a2 (openC_ok R2 (((St.at_openC n3).trans (St.at_openS n2)).trans hib) :) fun ρ3 l3 R3=>?_
 exact ⟨t,ρ3,ht,(l1.trans l2).trans l3,R3⟩
theorem open_i {m b ib w c o:Nat} (R:Rel C F ρ σ s) (hr:readyB m b ib w c o σ = true) (hw:1≤w):∃ t ρ',t < 4∧ρ.le ρ'∧Rel C F ρ' (openAll σ m b ib w c o none (some t)) s:=by
 refine x0a6 (ready_ok hr :) fun hm hb hib n1 n2 n3=>?_
 obtain ⟨k,rfl⟩:∃ k,w = k + 1:=⟨w - 1,by lia⟩
 refine x1a2 (openS_ok R hm (wsOf_nodup _ c _) :) fun ρ1 l1 R1=>?_
 refine x1a2 (openC_ok R1 ((St.at_openS n1).trans hb) :) fun ρ2 l2 R2=>?_
 refine x2a3 (openCL_ok R2 (((St.at_openC n3).trans (St.at_openS n2)).trans hib) :) fun t ρ3 ht l3 R3=>?_
 exact ⟨t,ρ3,ht,(l1.trans l2).trans l3,R3⟩
theorem seg_ok (D:Gd C TT) (S:StOK C TT) {n k:Nat} {ok:Fl→Bool} {m b ib w c o:Nat} {tb ti:Option Nat} {rest:List PySem.Stmt} (h:segR n k ok σ m b ib w c o tb ti = true) (H:EnvOK C A F env lawKs v0 ρ) (T1:Top1 F env) (R:Rel C F ρ σ s) (hp:ρ.le ρ') (Ro:Rel C F ρ' (openAll σ m b ib w c o tb ti) s)
  (hQ:∀ s' fl f,ok fl = true→IsFl ρ s'.heap fl f∨fl = .next∧f = .next∨fl = .cont∧f = .cont→Next C F ρ s.heap ρ σ s'→match f with | .next=>wpAny (model PW C.w) A (execs rest env) Q E s' | f=>Q f s') (hok:∀ fl,ok fl = true→isNC fl = true):wpAny (model PW C.w) A (execs (bseg n k++rest) env) Q E s:=by
 refine run_app D S (bseg n k) h (H.mono hp) T1 Ro ?_
 intro ρ2 σ2 s2 fl f hf N hi
 refine x0a2 (andB_ok hf :) fun h1 h2=>?_
 have R3:=R.back N.rel (hp.trans N.pre) (τ:=σ) rfl rfl R.clC R.clL h2
 exact hQ s2 fl f h1 (.inr (isNC_ok (hok fl h1) hi)) ⟨Va.le.refl _,N.tk,R3⟩
theorem turn_ok (D:Gd C TT) (S:StOK C TT) {tell:Bool} {m b ib w c o:Nat} {κ:KS} {ε:KX} (hr:readyB m b ib w c o σ = true) (h:turnB tell m b ib w c o σ = true) (ho:1≤o) (hw:1≤w) (hκ:∀ fl,isNC fl = true→κ fl σ = true):semL C lawKs bodyB rT v0 σ κ ε = true:=by
 refine semL_of fun A F env ρ s Q E H T1 R GS GE=>?_
 rw [bodyB_eq]
 have three:∀ {tb ti tb' ti':Option Nat} {ρ1:Va},segR 0 5 isNF σ m b ib w c o tb ti = true→ρ.le ρ1→Rel C F ρ1 (openAll σ m b ib w c o tb ti) s →
   (∀ s2,Next C F ρ s.heap ρ σ s2→∃ tb ti ρ2,segR 5 5 isNF σ m b ib w c o tb ti = true∧ρ.le ρ2∧Rel C F ρ2 (openAll σ m b ib w c o tb ti) s2)→segR 10 10 isNC σ m b ib w c o none none = true →
   wpAny (model PW C.w) A (execs (bseg 0 5++(bseg 5 5++(bseg 10 10++[]))) env) Q E s:=by
  intro tb ti tb' ti' ρ1 g1 l1 Ro1 next2 g3
  refine seg_ok D S g1 H T1 R l1 Ro1 (fun s2 fl f hfl hi N2=>?_) fun fl q=>by cases fl <;> first | rfl | exact ft' q
  obtain rfl:f = .next:=by
   rcases hi with hi | ⟨rfl,rfl⟩ | ⟨rfl,rfl⟩
   ·exact isNF_ok hfl hi
   ·rfl
   ·exact ft' hfl
  refine x3a3 (next2 s2 N2 :) fun tb2 ti2 ρ2 g2 l2 Ro2=>?_
  refine seg_ok D S g2 H T1 N2.rel l2 Ro2 (fun s3 fl f hfl hi N3=>?_) fun fl q=>by cases fl <;> first | rfl | exact ft' q
  obtain rfl:f = .next:=by
   rcases hi with hi | ⟨rfl,rfl⟩ | ⟨rfl,rfl⟩
   ·exact isNF_ok hfl hi
   ·rfl
   ·exact ft' hfl
  refine x1a2 (open_ok N3.rel hr :) fun ρ3 l3 Ro3=>?_
  refine seg_ok D S g3 H T1 N3.rel l3 Ro3 (fun s4 fl f hfl hi N4=>?_) fun fl q=>q
  have N:=(N2.trans N3).trans N4
  rcases hi with hi | ⟨rfl,rfl⟩ | ⟨rfl,rfl⟩
  ·rcases isNC_ok hfl hi with ⟨rfl,rfl⟩ | ⟨rfl,rfl⟩
   ·exact wpAny_execs_nil (GS _ _ _ _ _ (hκ _ rfl) N .next)
   ·exact GS _ _ _ _ _ (hκ _ rfl) N .cont
  ·exact wpAny_execs_nil (GS _ _ _ _ _ (hκ _ rfl) N .next)
  ·exact GS _ _ _ _ _ (hκ _ rfl) N .cont
 induction tell using Bool.casesOn with
 | false =>
  refine x0a2 (andB_ok (b:=andB (segR 5 5 isNF σ m b ib w c o none none) (segR 10 10 isNC σ m b ib w c o none none)) h :) fun g1 h=>?_
  refine x0a2 (andB_ok h :) fun g2 g3=>?_
  refine x1a2 (open_ok R hr :) fun ρ1 l1 Ro1=>?_
  refine three (tb':=none) (ti':=none) g1 l1 Ro1 (fun s2 N2=>?_) g3
  refine x1a2 (open_ok N2.rel hr :) fun ρ2 l2 Ro2=>?_
  exact ⟨none,none,ρ2,g2,l2,Ro2⟩
 | true =>
  refine x0a2 (andB_ok (a:=forkN 4 fun t=>segR 0 5 isNF σ m b ib w c o (some t) none) (b:=andB (forkN 4 fun t=>segR 5 5 isNF σ m b ib w c o none (some t)) (segR 10 10 isNC σ m b ib w c o none none)) h :) fun g1 h=>?_
  refine x0a2 (andB_ok h :) fun g2 g3=>?_
  refine x2a3 (open_b R hr ho :) fun t ρ1 ht l1 Ro1=>?_
  refine three (tb':=none) (ti':=none) (forkN_ok g1 t ht) l1 Ro1 (fun s2 N2=>?_) g3
  refine x2a3 (open_i N2.rel hr hw :) fun t2 ρ2 ht2 l2 Ro2=>?_
  exact ⟨none,some t2,ρ2,forkN_ok g2 t2 ht2,l2,Ro2⟩
end
end Mine
end
section
set_option maxHeartbeats 4000000
namespace Mine
section
variable {C:SC} {F:Fm} {ρ ρ1 ρ':Va} {σ σ':St} {s s' sA:Shared} {A:Around} {env:Env} {v:Ve} {Q:Flow→Shared→Prop} {E:Value→Shared→Prop} {r:Rc} {rest:List PySem.Stmt}
theorem pos_store {τ:St} {p:Nat} {k:St→Bool} {ε:KX} {w:Option V} (hc:τ.at npos = some (.cell w)) (hz:τ.fz≤npos):(asgC TT (compX TT 40 lawKs) lawKs (forT posFor)).a rT v0 (.int (.ofNat p)) τ k ε = k (posAt τ p):=by
 rw [eqPosT,hc]
 dsimp only
 unfold St.putZ
 rw [show Nat.ble τ.fz npos = true from Nat.ble_eq.mpr hz]
 rfl
theorem posAt_posAt {p q:Nat}:posAt (posAt σ p) q = posAt σ q:=St.put_put
theorem posAt_at {p:Nat}:(posAt σ p).at npos = some (.cell (some (.int (.ofNat p)))):=by
 show (σ.put npos _).at npos = _
 rw [St.at_put,if_pos rfl]
theorem posLoop (D:Gd C TT) (S:StOK C TT) {tell:Bool} {m b ib w c o:Nat} {κ:KS} {ε:KX} (hz:σ.fz≤npos) (ho:1≤o) (hw:1≤w) (hall:∀ p,p < c→readyB m b ib w c o (posAt σ p) = true∧turnB tell m b ib w c o (posAt σ p) = true) (hκ:κ .next (posAt σ (c - 1)) = true) :
  ∀ (k i:Nat) (τ:St) (x:Option V),i + k = c→1≤c→τ.at npos = some (.cell x)→τ.fz = σ.fz→(∀ q,posAt τ q = posAt σ q)→(k = 0→τ = posAt σ (c - 1)) →
  forL (semL C lawKs bodyB) (asgC TT (compX TT 40 lawKs) lawKs (forT posFor)) (rangeL ((i:Nat):Int) k) rT v0 τ κ ε = true:=by
 intro nq
 induction nq with
 | zero =>
  intro i τ x _ _ _ _ _ h0
  rw [h0 rfl];exact hκ
 | succ k ih =>
  intro i τ x hik hc1 hc hf hq _
  show (asgC TT (compX TT 40 lawKs) lawKs (forT posFor)).a rT v0 (.int (.ofNat i)) τ (fun σ'=>semL C lawKs bodyB rT v0 σ' (forK κ (fun σ''=>forL (semL C lawKs bodyB) (asgC TT (compX TT 40 lawKs) lawKs (forT posFor)) (rangeL ((i:Int) + 1) k) rT v0 σ'' κ ε)) ε) ε = true
  rw [pos_store hc (hf▸hz),hq i]
  refine x0a2 (hall i (by lia) :) fun g1 g2=>?_
  have ih:forL (semL C lawKs bodyB) (asgC TT (compX TT 40 lawKs) lawKs (forT posFor)) (rangeL ((i:Int) + 1) k) rT v0 (posAt σ i) κ ε = true :=
   ih (i + 1) (posAt σ i) _ (by lia) hc1 posAt_at rfl (fun q=>posAt_posAt) fun hk=>by
    subst hk
    have:c - 1 = i:=by lia
    rw [this]
  exact turn_ok D S g1 g2 ho hw fun fl hfl=>by
   cases fl with
   | next=>exact ih
   | cont=>exact ih
   | ret _=>exact ft' hfl
theorem run5_ok (D:Gd C TT) (S:StOK C TT) {w c o y:Nat} {sg:V} {tell:Bool} (hrun:runC5 w c o sg y tell = true) (hc:1≤c∧c≤4) (ho:1≤o) (hw:1≤w) (H:EnvOK C A F env lawKs v0 ρ) (T1:Top1 F env)
  (R0:Rel C F ρ s0 sA) (hp:ρ.le ρ1) (R:Rel C F ρ1 (s1 w c o sg y) s) (hQ:∀ s',Rel C F ρ s0 s'→wpAny (model PW C.w) A (execs rest env) Q E s'):wpAny (model PW C.w) A (execs (lseg 5 2++(lseg 7 7++(posFor :: rest))) env) Q E s:=by
 refine run_app D S (lseg 5 2) hrun (H.mono hp) T1 R ?_
 intro ρ2 σ2 s2 fl f hf N hi
 refine x0a2 (andB_ok hf :) fun h1 h2=>?_
 obtain rfl:=isNF_ok h1 hi
 refine x1a2 (crlOf_ok h2 N.rel :) fun b h2 R2=>?_
 refine x1a2 (crlOf_ok h2 R2 :) fun ib h2 R3=>?_
 have hp2:=hp.trans N.pre
 refine run_app D S (lseg 7 7) h2 (H.mono hp2) T1 R3 ?_
 intro ρ4 σ4 s4 fl f hf N4 hi
 refine x0a2 (andB_ok hf :) fun h1 h4=>?_
 obtain rfl:=isNF_ok h1 hi
 refine x1a2 (stvOf_ok h4 N4.rel :) fun m h4 R5=>?_
 have hp4:=hp2.trans N4.pre
 generalize hσ5:σ4.put m (.stv (wsOf w c o)) = σ5 at h4 R5
 refine x0a2 (andB_ok (show andB (isCell npos σ5) (andB (Nat.ble σ5.fz npos) (andB (natN (cellAt ncnt σ5) fun k=>Nat.beq k c) (forkN c fun p=>andB (readyB m b ib w c o (posAt σ5 p)) (andB (turnB tell m b ib w c o (posAt σ5 p)) (backOK s0 (posAt σ5 p)))))) = true from h4) :) fun g1 h4=>?_
 refine x0a2 (andB_ok h4 :) fun g2 h4=>?_
 refine x0a2 (andB_ok h4 :) fun g3 g4=>?_
 refine x1a1 (isCell_ok g1 :) fun x hx=>?_
 have hz:=Nat.le_of_ble_eq_true g2
 refine x1a2 (natN_ok g3 :) fun n hn hnc=>?_
 obtain rfl:=Nat.eq_of_beq_eq_true hnc
 show wpAny (model PW C.w) A (execs (posFor :: rest) env) Q E s4
 rw [posFor_eq]
 refine one_st (forRb_ok D.gr (cxT_ok D S lawKs) (semL_ok (l:=bodyB)) posRange posStar) (v:=v0) (ε:=fun _ _=>false) (κ:=kF fun fl σ'=>fl = .next∧σ' = posAt σ5 (n - 1)) ?_ (H.mono hp4) T1 R5 noGo ?_
 ·refine (eqPos σ5 (fun vs σ'=>rangeOf vs fun l=>forL (semL C lawKs bodyB) (asgC TT (compX TT 40 lawKs) lawKs (forT posFor)) l rT v0 σ' (kF fun fl σ'=>fl = .next∧σ' = posAt σ5 (n - 1)) (fun _ _=>false)) (fun _ _=>false)).trans ?_
  rw [hn]
  show ifB (Nat.ble n 1000000) (forL (semL C lawKs bodyB) (asgC TT (compX TT 40 lawKs) lawKs (forT posFor)) (rangeL ((0:Nat):Int) n) rT v0 σ5 (kF fun fl σ'=>fl = .next∧σ' = posAt σ5 (n - 1)) (fun _ _=>false)) false = true
  rw [Nat.ble_eq.mpr (by lia),ifB_t]
  refine posLoop (tell:=tell) (m:=m) (b:=b) (ib:=ib) D S hz ho hw (fun p hp=>?_) (kF_of ⟨rfl,rfl⟩) n 0 σ5 x (Nat.zero_add n) hc.1 hx rfl (fun _=>rfl) fun h0=>by lia
  refine x0a2 (andB_ok (forkN_ok g4 p hp) :) fun q1 q2=>?_
  exact ⟨q1,(andB_ok q2).1⟩
 intro ρ6 σ6 s6 fl f hf
 refine x0a2 (kF_ok hf :) fun q0q q1q=>?_;subst q0q;subst q1q
 intro N6 hi
 cases hi
 refine x0a2 (andB_ok (forkN_ok g4 (n - 1) (by lia)) :) fun q1 q2=>?_
 exact hQ s6 (R0.back N6.rel (hp4.trans N6.pre) rfl rfl R0.clC R0.clL (andB_ok q2).2)
end
end Mine
end
section
set_option maxHeartbeats 4000000
namespace Mine
theorem s0_syn:s0.syn = 0:=by kernel_rfl
theorem ncnt_lt:ncnt < s0.nxt:=by decide +kernel
section
variable {C:SC} {F:Fm} {ρ ρ1 ρ':Va} {σ σ':St} {s s' sA:Shared} {A:Around} {env:Env} {v:Ve} {Q:Flow→Shared→Prop} {E:Value→Shared→Prop} {r:Rc} {rest:List PySem.Stmt}
theorem s0_row:lk s0.cur (key "row") = some (.loc (nc + 2)):=by
 show lk [(kRow,V.loc (nc + 2))] kRow = _
 rw [lk_cons,if_pos rfl]
theorem s1_cl (R:Rel C F ρ s0 s) {w c o:Nat} {b:Bool}:∀ x u,lk (s1 w c o (.bool b) 0).cur (key x) = some u→ClV ρ u:=by
 intro x u e
 have e':lk [(kRow,V.loc (nc + 2)),(kW,.int (.ofNat w)),(kOuter,.int (.ofNat o)),(kSigned,.bool b)] (key x) = some u:=e
 rw [lk_cons] at e'
 (revert e';refine ifR (fun _ e'=>?_) fun _ e'=>?_)
 ·(refine jS e' fun j=>?_;clear e';subst j);exact R.clC "row" _ s0_row
 rw [lk_cons] at e'
 (revert e';refine ifR (fun _ e'=>?_) fun _ e'=>?_)
 ·(refine jS e' fun j=>?_;clear e';subst j);exact .int
 rw [lk_cons] at e'
 (revert e';refine ifR (fun _ e'=>?_) fun _ e'=>?_)
 ·(refine jS e' fun j=>?_;clear e';subst j);exact .int
 rw [lk_cons] at e'
 (revert e';refine ifR (fun _ e'=>?_) fun _ e'=>?_)
 ·(refine jS e' fun j=>?_;clear e';subst j);exact .bool
 ·exact nS' e'
set_option tactic.hygienic true in
theorem s1_ll (R:Rel C F ρ s0 s) {w c o:Nat} {b:Bool}:∀ n t,(s1 w c o (.bool b) 0).at n = some t→n < s0.nxt∧ClO ρ t:=by
 intro n t e
 have e':lk (up s0.led ncnt (.cell (some (.int (.ofNat c))))) n = some t:=e
 rw [lk_up] at e'
 (revert e';refine ifR (fun _ e'=>?_) fun _ e'=>?_)
 ·rename_i q
  (refine jS e' fun j=>?_;clear e';subst j)
  subst q
  exact ⟨ncnt_lt,fun x e=>by (refine jS e fun j=>?_;clear e;subst j);exact .int⟩
 ·exact R.clL n t e'
theorem step14 (D:Gd C TT) (S:StOK C TT) (h:chk14 = true) (H:EnvOK C A F env lawKs v0 ρ) (T1:Top1 F env) (R:Rel C F ρ s0 s)
  (hQ:∀ w c o b s',okCombo w c o = true→Rel C F ρ (s1 w c o (.bool b) 0) s'→wpAny (model PW C.w) A (execs rest env) Q E s'):wpAny (model PW C.w) A (execs (lseg 1 4++rest) env) Q E s:=by
 refine run_app D S (lseg 1 4) h H T1 R ?_
 intro ρ2 σ2 s2 fl f hf N hi
 refine x0a2 (andB_ok hf :) fun h1 h2=>?_
 obtain rfl:=isNF_ok h1 hi
 refine x1a2 (natN_ok h2 :) fun w _ h2=>?_
 refine x1a2 (natN_ok h2 :) fun o _ h2=>?_
 refine x1a2 (natN_ok h2 :) fun c _ h2=>?_
 refine x1a2 (boolN_ok h2 :) fun b _ h2=>?_
 refine x0a2 (andB_ok h2 :) fun h3 h4=>?_
 exact hQ w c o b s2 h3 (R.back N.rel N.pre rfl (by rw [s0_syn] <;> rfl) (s1_cl R) (s1_ll R) h4)
set_option tactic.hygienic true in
theorem sign_sym {w c o:Nat} {b:Bool} (R:Rel C F ρ (s1 w c o (.bool b) 0) s):Rel C F ⟨ρ.adr,ρ.sym++[.bool b]⟩ (s1 w c o (.sb 0) 1) s:=by
 have hs:ρ.sym = []:=List.eq_nil_of_length_eq_zero R.syn.symm
 have R1:=R.sym (.bool b)
 refine R1.recur (c:=[(kRow,.loc (nc + 2)),(kW,.int (.ofNat w)),(kOuter,.int (.ofNat o)),(kSigned,.sb 0)]) fun x u e=>?_
 show ∃ u',lk [(kRow,V.loc (nc + 2)),(kW,.int (.ofNat w)),(kOuter,.int (.ofNat o)),(kSigned,.bool b)] x = some u'∧_
 rw [lk_cons] at e ⊢
 (revert e;refine ifR (fun _ e=>?_) fun _ e=>?_)
 ·rename_i q;rw [if_pos q];(refine jS e fun j=>?_;clear e;subst j);exact ⟨_,rfl,fun _ h=>h⟩
 rename_i q;rw [if_neg q]
 rw [lk_cons] at e ⊢
 (revert e;refine ifR (fun _ e=>?_) fun _ e=>?_)
 ·rename_i q;rw [if_pos q];(refine jS e fun j=>?_;clear e;subst j);exact ⟨_,rfl,fun _ h=>h⟩
 rename_i q;rw [if_neg q]
 rw [lk_cons] at e ⊢
 (revert e;refine ifR (fun _ e=>?_) fun _ e=>?_)
 ·rename_i q;rw [if_pos q];(refine jS e fun j=>?_;clear e;subst j);exact ⟨_,rfl,fun _ h=>h⟩
 rename_i q;rw [if_neg q]
 rw [lk_cons] at e ⊢
 (revert e;refine ifR (fun _ e=>?_) fun _ e=>?_)
 ·rename_i q
  rw [if_pos q]
  (refine jS e fun j=>?_;clear e;subst j)
  refine ⟨_,rfl,fun v h=>?_⟩
  cases h
  exact .sb (by rw [hs];rfl)
 ·exact nS' e
structure Chk:Prop where
 c14:chk14 = true
 one:∀ w o b,okCombo w 1 o = true→runC5 w 1 o (.bool b) 0 b = true
 more:∀ w c o,okCombo w c o = true→2≤c→runC5 w c o (.sb 0) 1 false = true
 lz:∀ n k,1≤n→n≤3→k≤4→lz n k k [] = true
 lap:∀ n k,1≤n→n≤3→k≤3→lapOK n k = true
 kind:∀ x∈kinds,kindOK x = true
theorem okCombo_ok {w c o:Nat} (h:okCombo w c o = true):(1≤c∧c≤4)∧1≤o∧1≤w:=by
 refine x0a2 (andB_ok h :) fun h1 h2=>?_
 refine x0a2 (andB_ok h2 :) fun h2 h3=>?_
 refine x0a2 (andB_ok h1 :) fun g1 _=>?_
 refine x0a2 (andB_ok h2 :) fun g3 g4=>?_
 have g1:=Nat.le_of_ble_eq_true g1
 have g3:=Nat.le_of_ble_eq_true g3
 have g4:=Nat.le_of_ble_eq_true g4
 refine ⟨⟨g3,g4⟩,?_,g1⟩
 have orB_ok:∀ {a b:Bool},orB a b = true→a = true∨b = true:=fun {a b} h=>by induction a using Bool.casesOn <;> first | exact .inl rfl | exact .inr h
 have hm:1≤w * c:=Nat.mul_pos g1 g3
 rcases orB_ok h3 with q | h3
 ·rw [Nat.eq_of_beq_eq_true q];exact g1
 rcases orB_ok h3 with q | h3
 ·rw [Nat.eq_of_beq_eq_true q];exact hm
 rcases orB_ok h3 with q | h3
 ·rw [Nat.eq_of_beq_eq_true q];exact Nat.succ_le_succ (Nat.zero_le _)
 rcases orB_ok h3 with q | h3
 ·rw [Nat.eq_of_beq_eq_true q];exact Nat.le_refl _
 ·rw [Nat.eq_of_beq_eq_true h3];exact g3
theorem steps1 (D:Gd C TT) (S:StOK C TT) (K:Chk) (H:EnvOK C A F env lawKs v0 ρ) (T1:Top1 F env) (R:Rel C F ρ s0 s) (hQ:∀ s',Rel C F ρ s0 s'→wpAny (model PW C.w) A (execs rest env) Q E s') :
  wpAny (model PW C.w) A (execs (lseg 1 4++(lseg 5 2++(lseg 7 7++(posFor :: rest)))) env) Q E s:=by
 refine step14 D S K.c14 H T1 R fun w c o b s' hok R1=>?_
 refine x0a3 (okCombo_ok hok :) fun hc ho hw=>?_
 by_cases h1:c = 1
 ·subst h1
  exact run5_ok D S (K.one w o b hok) hc ho hw H T1 R (Va.le.refl _) R1 hQ
 ·exact run5_ok D S (K.more w c o hok (by lia)) hc ho hw H T1 R (le_sym _ _) (sign_sym R1) hQ
end
end Mine
end
section
set_option maxHeartbeats 4000000
namespace Mine
noncomputable section
noncomputable def ledT (n:Nat):List (Nat×O):=up (up s0.led nports (.cell (some (portV n)))) nconns (.cell (some (.loc (nc + 3))))
noncomputable def sp (n k:Nat):St:={ s0 with led:=(nc + 3,.prs k) :: ledT n,nxt:=nc + 4,syn:=0 }
noncomputable def sl (n k:Nat) (u:V):St:={ sp n k with cur:=[(kRow,.loc (nc + 2)),(kLap,u)] }
end
section
variable (n k:Nat) (κ:KS) (κx:KX) (ε:KX) (σ:St) (g:St→Bool) (x:Str) (y:Option Str) (f:List V→St→Bool) (u:V) (w:V→Bool) (b:Bool)
theorem eqLap:evs (compX TT 40 lawKs) (cArgs (forI lapFor)) rT v0 (sp n 0) (fun vs σ'=>rangeOf vs fun l=>f l σ') ε = andB (f (rangeL 0 4) (sp n 0)) (andB (f (rangeL 0 3) (sp n 0)) (andB (f (rangeL 0 2) (sp n 0)) (andB (f (rangeL 0 1) (sp n 0)) (andB (f (rangeL 0 0) (sp n 0)) true)))):=by kernel_rfl
theorem eqLapT:(asgC TT (compX TT 40 lawKs) lawKs (forT lapFor)).a rT v0 u (sp n k) g ε = g (sl n k u):=by kernel_rfl
theorem eqKind:(compX TT 40 lawKs (forI kindFor)).x rT v0 s0 κx ε = κx (.loc (nc + 3)) (s5 none):=by kernel_rfl
theorem eqKindT:(asgC TT (compX TT 40 lawKs) lawKs (forT kindFor)).a rT v0 (.str x) (s5 y) g ε = g (s5 (some x)):=by kernel_rfl
theorem eqKindN (i:Nat):nthAt (nc + 3) i (s5 y) b w = (match nth (kinds.map V.str) i with | some u=>w u | none=>b):=by kernel_rfl
theorem eq20:(compS TT lawKs 40 (lst 20)).s rT v0 σ κ ε = κ (.ret (.bool true)) σ:=by kernel_rfl
theorem ledT_none:lk (ledT n) (nc + 3) = none:=by kernel_rfl
theorem kind_noset:∀ a b c,forI kindFor≠.Set a b c:=by
 intro a b c q
 have h:(match forI kindFor with | .Set _ _ _=>true | _=>false) = false:=by kernel_rfl
 rw [q] at h;exact tf' h
end
section
variable {C:SC} {F:Fm} {ρ ρ1 ρ' ρ0:Va} {σ σ':St} {s s' sA:Shared} {A:Around} {env:Env} {v:Ve} {Q:Flow→Shared→Prop} {E:Value→Shared→Prop} {r:Rc} {rest:List PySem.Stmt} {h:Heap} {ad:List Addr}
theorem opqs_ok {S:List Value}:∀ (vs:List Value) (j:Nat),(∀ v∈vs,OpqOk v)→(∀ q v,vs[q]? = some v→S[j + q]? = some v)→IsVs ⟨ad,S⟩ h (opqs vs.length j) vs:=by
 intro lq
 induction lq with
 | nil =>
  intro _ _ _
  exact .nil
 | cons v vs ih =>
  intro j H hS
  exact .cons (.opq (by simpa using hS 0 v rfl) (H v (.head _))) (ih (j + 1) (fun v hv=>H v (.tail _ hv)) fun q v e=>by
   have:=hS (q + 1) v (by simpa using e)
   rw [show j + 1 + q = j + (q + 1) by lia];exact this)
theorem opqs_at:∀ (k j:Nat) {vs:List Value},IsVs ρ h (opqs k j) vs→∀ q v,vs[q]? = some v→ρ.sym[j + q]? = some v:=by
 intro k
 induction k with
 | zero=>intro j vs a q v e;rw [show vs = [] from a.inv] at e;exact nS' e
 | succ k ih =>
  intro j vs a q v e
  refine x2a3 (a.inv :) fun w us e0 a r=>?_
  rw [e0] at e
  induction q using Nat.casesOn with
  | zero=>rw [← Option.some.inj e];exact (a.inv).1
  | succ q =>
   have:=ih (j + 1) r q v e
   rw [show j + (q + 1) = j + 1 + q by lia];exact this
theorem PairOK.opq {v:Value} (x:PairOK h v):OpqOk v:=let ⟨t,_,_,e,_⟩:=x;.inr ⟨t,e⟩
theorem PairOK.mono {h':Heap} {v:Value} (x:PairOK h v) (hk:TK h h'):PairOK h' v:=let ⟨t,nm,y,e1,e2,e3⟩:=x;⟨t,nm,y,e1,hk.tup _ _ e2,e3⟩
theorem isPr_ok {u:V} {w:Value} (hu:isPr u = true) (hw:IsV ρ h u w):PairOK h w:=by
 refine x1a2 (mTup hu ft :) fun l q1q hu=>?_;subst q1q
 induction l using List.casesOn with
 | nil=>exact ft' hu
 | cons a l =>
 induction l using List.casesOn with
 | nil=>exact ft' hu
 | cons b l =>
 induction l using List.casesOn with
 | cons _ _=>exact ft' hu
 | nil =>
   refine x0a2 (andB_ok hu :) fun h1 h2=>?_
   cases hw with
   | @tup _ t vs ht hs =>
   cases hs with
   | @cons _ nm _ _ ia r =>
   cases r with
   | @cons _ e _ _ ib r =>
   cases r
   refine ⟨t,nm,e,rfl,ht,?_,?_⟩
   ·induction ia using IsV.casesOn with
    | none=>exact .inl rfl
    | @str x tk =>
     refine .inr ⟨x,tk,rfl,?_⟩
     have orB_ok:∀ {a b:Bool},orB a b = true→a = true∨b = true:=fun {a b} h=>by induction a using Bool.casesOn <;> first | exact .inl rfl | exact .inr h
     have st:∀ {p q:Str},sameSt p q = true→p = q:=fun hpq=>key_inj (Nat.eq_of_beq_eq_true hpq)
     rcases orB_ok (show orB (sameSt x "x") (orB (sameSt x "y") (orB (sameSt x "z") (sameSt x "w"))) = true from h1) with q | q
     ·exact .inl (st q)
     rcases orB_ok q with q | q
     ·exact .inr (.inl (st q))
     rcases orB_ok q with q | q
     ·exact .inr (.inr (.inl (st q)))
     ·exact .inr (.inr (.inr (st q)))
    | _=>exact ft' h1
   ·induction ib using IsV.casesOn with
    | none=>exact .inl rfl
    | tup _ _=>exact .inr ⟨_,rfl⟩
    | _=>exact ft' h2
theorem sp_at {n k:Nat}:(sp n k).at (nc + 3) = some (.prs k):=by
 show lk ((nc + 3,O.prs k) :: ledT n) (nc + 3) = _
 rw [lk_cons,if_pos rfl]
theorem sl_at {n k:Nat} {u:V}:(sl n k u).at (nc + 3) = some (.prs k):=sp_at
theorem ledT_ne {n m:Nat} {o:O} (e:lk (ledT n) m = some o):nc + 3≠m:=fun q=>by rw [← q,ledT_none] at e;exact nS' e
set_option tactic.hygienic true in
theorem lap_ok (D:Gd C TT) (S:StOK C TT) {n k:Nat} {κ:KS} {ε:KX} (hl:lapOK n k = true) (hκ:κ .next (sp n (k + 1)) = true):semL C lawKs lapB rT v0 (sl n k (.int (.ofNat k))) κ ε = true:=by
 refine semL_of fun A F env ρ s Q E H T1 R GS GE=>?_
 obtain ⟨a,ha,vs,hpl,hlen,hall⟩:=R.led (nc + 3) _ sl_at
 have hsym:ρ.sym = []:=List.eq_nil_of_length_eq_zero R.syn.symm
 have le1:ρ.le ⟨ρ.adr,ρ.sym++vs⟩:=⟨List.prefix_refl _,List.prefix_append _ _⟩
 have Ro:=R.reopen (k:=k) (o':=.list (opqs k 0)) ha hlen ⟨vs,hpl,hlen▸opqs_ok vs 0 (fun v hv=>(hall v hv).opq) fun q v e=>by rw [hsym,Nat.zero_add];exact e⟩
 have es:({ (sl n k (.int (.ofNat k))).put (nc + 3) (.list (opqs k 0)) with syn:=(sl n k (.int (.ofNat k))).syn + k }:St) = { s2 n k (opqs k 0) with cur:=[(kRow,.loc (nc + 2)),(kLap,.int (.ofNat k))] }:=by
  show ({ cur:=_,led:=up ((nc + 3,O.prs k) :: ledT n) (nc + 3) (.list (opqs k 0)),nxt:=_,syn:=0 + k,fz:=_ }:St) = _
  rw [up_cons,if_pos rfl,Nat.zero_add]
  rfl
 rw [es] at Ro
 have hlb:lapB = lapB++[]:=(List.append_nil _).symm
 rw [hlb]
 refine run_app D S lapB hl (H.mono le1) T1 Ro ?_
 intro ρ2 σ2 s2' fl f hf N hi
 refine x0a2 (andB_ok hf :) fun h1 h2=>?_
 obtain rfl:=isNF_ok h1 hi
 refine x0a2 (andB_ok h2 :) fun h2 h3=>?_
 have hlist:∃ u,σ2.at (nc + 3) = some (.list (opqs k 0++[u]))∧isPr u = true:=by
  refine x1a2 (mSome h2 ft :) fun o eo h2=>?_
  induction o using O.casesOn with
  | list ys =>
   dsimp only at h2
   induction er:revL ys using List.casesOn with
   | nil=>rw [er] at h2;exact ft' h2
   | cons u zs =>
    rw [er] at h2
    refine x0a2 (andB_ok h2 :) fun g1 g2=>?_
    have:=all2_ok sameV_ok g2
    rw [revL_eq] at er this
    refine ⟨u,?_,g1⟩
    rw [eo]
    have:ys = opqs k 0++[u]:=by rw [← List.reverse_reverse ys,er,← this];simp
    rw [this]
  | _=>exact ft' h2
 refine x1a2 hlist fun u hat hpr=>?_;clear hlist
 have hp2:=le1.trans N.pre
 refine x1a2 (N.rel.thing (getpre hp2.adr ha) hat :) fun ws hplw hvw=>?_
 refine x2a3 (hvw.splitL :) fun p q q2q hip hiq=>?_;subst q2q
 refine x2a3 (hiq.inv :) fun w q' evq iu r=>?_;subst evq
 cases r
 have hpv:∀ v∈p++[w],PairOK s2'.heap v:=by
  intro v hv
  rcases List.mem_append.mp hv with hv | hv
  ·obtain ⟨i,hi',rfl⟩:=List.mem_iff_getElem.mp hv
   have e1:=opqs_at k 0 hip i p[i] (List.getElem?_eq_getElem hi')
   have hlp:p.length = vs.length:=by
    have:=hip.length
    have h2:(opqs k 0).length = k:=by
     have:∀ k j,(opqs k j).length = k:=by
      intro k
      induction k with
      | zero=>intro j;rfl
      | succ k ih=>intro j;exact congrArg (· + 1) (ih (j + 1))
     exact this k 0
    lia
   have hiv:i < vs.length:=hlp▸hi'
   have e2:ρ2.sym[i]? = some vs[i]:=getpre N.pre.sym (by rw [hsym];exact List.getElem?_eq_getElem hiv)
   rw [Nat.zero_add] at e1
   rw [e2] at e1
   rw [← Option.some.inj e1]
   exact (hall _ (List.getElem_mem hiv)).mono N.tk
  ·rw [List.mem_singleton.mp hv];exact isPr_ok hpr iu
 have hplen:(p++[w]).length = k + 1:=by
  have h2:∀ k j,(opqs k j).length = k:=by
   intro k
   induction k with
   | zero=>intro j;rfl
   | succ k ih=>intro j;exact congrArg (· + 1) (ih (j + 1))
  have:=hip.length
  rw [h2] at this
  simp [← this]
 have R3:=R.back N.rel hp2 (τ:={ sp n k with led:=ledT n }) rfl rfl (fun x u e=>R.clC x u (lk_pre (m:=[(kLap,V.int (.ofNat k))]) e)) (fun m t e=>by
  refine R.clL m t ?_
  have e':lk (ledT n) m = some t:=e
  show lk ((nc + 3,O.prs k) :: ledT n) m = some t
  rw [lk_cons,if_neg (ledT_ne e')];exact e') h3
 have R4:=(R3.view (o':=.prs (k + 1)) ha ⟨_,hplw,hplen,hpv⟩).relet (l:=(nc + 3,.prs (k + 1)) :: ledT n) fun m o e=>by
  show lk (up (ledT n) (nc + 3) (.prs (k + 1))) m = some o
  rw [lk_up]
  rw [lk_cons] at e
  (revert e;refine ifR (fun _ e=>?_) fun _ e=>?_)
  ·rename_i q;rw [if_pos q.symm];exact e
  ·rename_i q;rw [if_neg fun z=>q z.symm];exact e
 exact wpAny_execs_nil (GS _ _ _ _ _ hκ ⟨Va.le.refl _,N.tk,R4⟩ .next)
end
end Mine
end
section
set_option maxHeartbeats 1000000
namespace Mine
inductive Pre (h:Heap):List Value→List Nat→List Value→Prop
 | nil {vs}:(∀ v∈vs,PairOK h v)→Pre h vs [] []
 | cons {t nm e vs p pre es}:IsTup h t #[nm,e]→(∀ ρ h,IsV ρ h (nmV p) nm)→OpqOk e→Pre h vs pre es→Pre h (.ref t :: vs) (p :: pre) (e :: es)
section
variable {C:SC} {F:Fm} {ρ ρ1 ρ' ρ0:Va} {σ σ':St} {s s' sA:Shared} {A:Around} {env:Env} {v:Ve} {Q:Flow→Shared→Prop} {E:Value→Shared→Prop} {r:Rc} {rest:List PySem.Stmt} {h:Heap} {ad:List Addr}
theorem NmOK.ix {nm:Value} (x:NmOK nm):∃ i,i < 5∧∀ ρ h,IsV ρ h (nmV i) nm:=by
 rcases x with rfl | ⟨x,t,rfl,rfl | rfl | rfl | rfl⟩
 ·exact ⟨4,by decide,fun _ _=>.none⟩
 ·exact ⟨0,by decide,fun _ _=>.str⟩
 ·exact ⟨1,by decide,fun _ _=>.str⟩
 ·exact ⟨2,by decide,fun _ _=>.str⟩
 ·exact ⟨3,by decide,fun _ _=>.str⟩
theorem Pre.more:∀ {vs:List Value} {pre:List Nat} {es:List Value},Pre h vs pre es→pre.length < vs.length→∃ i e,i < 5∧Pre h vs (pre++[i]) (es++[e]):=by
 intro vs pre es p
 induction p with
 | @nil vs H =>
  intro hl
  induction vs using List.casesOn with
  | nil=>exact absurd hl (Nat.lt_irrefl _)
  | cons v vs =>
  refine x3a4 (H v (.head _) :) fun t nm e q3q ht hn he=>?_;subst q3q
  refine x1a2 (hn.ix :) fun i hi hv=>?_
  exact ⟨i,e,hi,.cons ht hv he (.nil fun v hv=>H v (.tail _ hv))⟩
 | cons a b c r ih =>
  intro hl
  refine x2a2 (ih (Nat.lt_of_succ_lt_succ hl) :) fun i e hi x=>?_
  exact ⟨i,e,hi,.cons a b c x⟩
theorem Pre.len:∀ {vs:List Value} {pre:List Nat} {es:List Value},Pre h vs pre es→es.length = pre.length∧pre.length≤vs.length:=by
 intro vs pre es p
 induction p with
 | nil _=>exact ⟨rfl,Nat.zero_le _⟩
 | cons _ _ _ _ ih=>exact ⟨congrArg (· + 1) ih.1,Nat.succ_le_succ ih.2⟩
theorem Pre.told {S:List Value}:∀ {vs:List Value} {pre:List Nat} {es:List Value} (i j:Nat),Pre h vs pre es→(∀ q v,es[q]? = some v→S[i + q]? = some v)→(∀ q v,vs[q]? = some v→S[j + q]? = some v) →
  IsVs ⟨ad,S⟩ h (app (Mine.told pre i) (opqs (vs.length - pre.length) (j + pre.length))) vs:=by
 intro vs pre es i j p
 induction p generalizing i j with
 | @nil vs H=>intro _ h2;exact opqs_ok vs j (fun v hv=>(H v hv).opq) h2
 | @cons t nm e vs p pre es a b c r ih =>
  intro h1 h2
  have ih:=ih (i + 1) (j + 1) (fun q v e'=>by rw [show i + 1 + q = i + (q + 1) from Nat.add_right_comm i 1 q];exact h1 (q + 1) v (by simpa using e')) fun q v e'=>by rw [show j + 1 + q = j + (q + 1) from Nat.add_right_comm j 1 q];exact h2 (q + 1) v (by simpa using e')
  have e0:S[i]? = some e:=by simpa using h1 0 e rfl
  have el:(Value.ref t :: vs).length - (p :: pre).length = vs.length - pre.length:=by simp
  rw [el,show j + (p :: pre).length = j + 1 + pre.length by simp;lia]
  exact .cons (.tup (vs:=[nm,e]) a (.cons (b _ _) (.cons (.opq e0 c) .nil))) ih
theorem andB_t {a b:Bool} (h1:a = true) (h2:b = true):andB a b = true:=by rw [h1];exact h2
theorem orB_ok {a b:Bool} (h:orB a b = true):a = true∨b = true:=by induction a using Bool.casesOn <;> first | exact .inl rfl | exact .inr h
theorem lz_ok {n k:Nat} {vs:List Value} (hk:vs.length = k):∀ (f:Nat) (pre:List Nat) (es:List Value),lz n k f pre = true→Pre h vs pre es→∃ pre' es',run18 (s4 n k pre') = true∧Pre h vs pre' es':=by
 intro nq
 induction nq with
 | zero =>
  intro pre es hl hp
  exact ⟨pre,es,hl,hp⟩
 | succ f ih =>
  intro pre es hl hp
  rcases orB_ok (show orB (run18 (s4 n k pre)) (andB (Nat.ble (len pre + 1) k) (forkN 5 fun i=>lz n k f (app pre [i]))) = true from hl) with q | q
  ·exact ⟨pre,es,q,hp⟩
  ·refine x0a2 (andB_ok q :) fun q1 q2=>?_
   have q1:=Nat.le_of_ble_eq_true q1
   rw [len_eq] at q1
   refine x2a2 (hp.more (by lia) :) fun i e hi hp'=>?_
   have:=forkN_ok q2 i hi
   rw [app_eq] at this
   exact ih _ _ this hp'
theorem s4_eq {n k:Nat} {pre:List Nat} (hk:pre.length≤k):s4 n k pre = { (sp n k).put (nc + 3) (.list (app (told pre k) (opqs (k - pre.length) (0 + pre.length)))) with syn:=(sp n k).syn + (k + pre.length) }:=by
 unfold s4
 rw [len_eq]
 show _ = ({ cur:=_,led:=up ((nc + 3,O.prs k) :: ledT n) (nc + 3) (.list (app (told pre k) (opqs (k - pre.length) (0 + pre.length)))),nxt:=_,syn:=0 + (k + pre.length),fz:=_ }:St)
 rw [up_cons,if_pos rfl,Nat.zero_add,Nat.zero_add]
 rfl
theorem step18 (D:Gd C TT) (S:StOK C TT) {n k:Nat} (hl:lz n k k [] = true) (H:EnvOK C A F env lawKs v0 ρ) (T1:Top1 F env) (R0:Rel C F ρ0 s0 sA) (hp:ρ0.le ρ) (R:Rel C F ρ (sp n k) s)
  (hQ:∀ s',Rel C F ρ0 s0 s'→wpAny (model PW C.w) A (execs rest env) Q E s'):wpAny (model PW C.w) A (execs ([lst 18]++rest) env) Q E s:=by
 obtain ⟨a,ha,vs,hpl,hlen,hall⟩:=R.led (nc + 3) _ sp_at
 refine x2a2 (lz_ok (h:=s.heap) hlen k [] [] hl (.nil hall) :) fun pre es hrun hpre=>?_
 refine x0a2 (hpre.len :) fun l1 l2=>?_
 have hsym:ρ.sym = []:=List.eq_nil_of_length_eq_zero R.syn.symm
 have le1:ρ.le ⟨ρ.adr,ρ.sym++(vs++es)⟩:=⟨List.prefix_refl _,List.prefix_append _ _⟩
 have hvs:=hpre.told (ad:=ρ.adr) (S:=ρ.sym++(vs++es)) k 0 (fun q v e=>by
  rw [hsym,List.nil_append,List.getElem?_append_right (by lia),← hlen,Nat.add_sub_cancel_left];exact e) fun q v e=>by
  rw [hsym,List.nil_append,Nat.zero_add,List.getElem?_append_left (List.getElem?_eq_some_iff.mp e).1];exact e
 rw [hlen] at hvs
 have Ro:=R.reopen (k:=k + pre.length) (o':=.list (app (told pre k) (opqs (k - pre.length) (0 + pre.length)))) ha (by rw [List.length_append,hlen,l1]) ⟨vs,hpl,hvs⟩
 rw [← s4_eq (hlen▸l2)] at Ro
 refine run_app D S [lst 18] hrun (H.mono le1) T1 Ro ?_
 intro ρ2 σ2 s2' fl f hf N hi
 refine x0a2 (andB_ok hf :) fun h1 h2=>?_
 obtain rfl:=isNF_ok h1 hi
 exact hQ s2' (R0.back N.rel ((hp.trans le1).trans N.pre) rfl rfl R0.clC R0.clL h2)
theorem lapLoop (D:Gd C TT) (S:StOK C TT) (K:Chk) {n:Nat} (hn:1≤n∧n≤3) {κ:KS} {ε:KX} (hκ:∀ k,k≤4→κ .next (sp n k) = true):∀ (j i:Nat),i + j≤4 →
  forL (semL C lawKs lapB) (asgC TT (compX TT 40 lawKs) lawKs (forT lapFor)) (rangeL ((i:Nat):Int) j) rT v0 (sp n i) κ ε = true:=by
 intro nq
 induction nq with
 | zero =>
  intro i h
  exact hκ i (by lia)
 | succ j ih =>
  intro i h
  show (asgC TT (compX TT 40 lawKs) lawKs (forT lapFor)).a rT v0 (.int (.ofNat i)) (sp n i) (fun σ'=>semL C lawKs lapB rT v0 σ' (forK κ (fun σ''=>forL (semL C lawKs lapB) (asgC TT (compX TT 40 lawKs) lawKs (forT lapFor)) (rangeL ((i:Int) + 1) j) rT v0 σ'' κ ε)) ε) ε = true
  rw [eqLapT]
  exact lap_ok D S (K.lap n i hn.1 hn.2 (by lia)) (ih (i + 1) (by lia))
theorem kind_ok (D:Gd C TT) (S:StOK C TT) {x:Str} {κ:KS} {ε:KX} (hk:kindOK x = true) (hκ:κ .next (s5 (some x)) = true):semL C lawKs kindB rT v0 (s5 (some x)) κ ε = true:=by
 refine semL_of fun A F env ρ s Q E H T1 R GS GE=>?_
 rw [show kindB = kindB++[] from (List.append_nil _).symm]
 refine run_app D S kindB hk H T1 R ?_
 intro ρ2 σ2 s2' fl f hf N hi
 refine x0a2 (andB_ok hf :) fun h1 h2=>?_
 obtain rfl:=isNF_ok h1 hi
 exact wpAny_execs_nil (GS _ _ _ _ _ hκ ⟨Va.le.refl _,N.tk,R.back N.rel N.pre rfl rfl R.clC R.clL h2⟩ .next)
theorem kindLoop (D:Gd C TT) (S:StOK C TT) (K:Chk) {κ:KS} {ε:KX} (hκ:∀ y,κ .next (s5 y) = true):∀ (f i:Nat) (y:Option Str),i + f = 64→i≤9 →
  forLs (semL C lawKs kindB) (asgC TT (compX TT 40 lawKs) lawKs (forT kindFor)) (nc + 3) f i rT v0 (s5 y) κ ε = true:=by
 intro nq
 induction nq with
 | zero =>
  intro i y h h9
  lia
 | succ f ih =>
  intro i y h h9
  show nthAt (nc + 3) i (s5 y) (κ .next (s5 y)) (fun u=>(asgC TT (compX TT 40 lawKs) lawKs (forT kindFor)).a rT v0 u (s5 y) (fun σ'=>semL C lawKs kindB rT v0 σ' (forK κ (fun σ''=>forLs (semL C lawKs kindB) (asgC TT (compX TT 40 lawKs) lawKs (forT kindFor)) (nc + 3) f (i + 1) rT v0 σ'' κ ε)) ε) ε) = true
  rw [eqKindN,nth_eq,List.getElem?_map]
  induction e:kinds[i]? using Option.casesOn with
  | none=>exact hκ y
  | some x =>
   dsimp only [Option.map]
   rw [eqKindT]
   have hlt:=(List.getElem?_eq_some_iff.mp e).1
   have h9':kinds.length = 9:=rfl
   exact kind_ok D S (K.kind x (List.mem_of_getElem? e)) (ih (i + 1) (some x) (by lia) (by lia))
theorem steps2 (D:Gd C TT) (S:StOK C TT) (K:Chk) (H:EnvOK C A F env lawKs v0 ρ) (T1:Top1 F env) (R:Rel C F ρ s0 s) (hQ:∀ ρ' σ' s',Rel C F ρ' σ' s'→Q (.ret (.bool true)) s') :
  wpAny (model PW C.w) A (execs (lseg 15 2++(lapFor :: ([lst 18]++(kindFor :: ([lst 20]++[]))))) env) Q E s:=by
 refine run_app D S (lseg 15 2) (κ:=kF fun fl σ'=>fl = .next∧∃ n,(1≤n∧n≤3)∧σ' = s2 n 0 []) ?_ H T1 R ?_
 ·refine (eq15 _ _).trans ?_
  rw [kF_of ⟨rfl,3,by decide,rfl⟩,kF_of ⟨rfl,2,by decide,rfl⟩,kF_of ⟨rfl,1,by decide,rfl⟩]
  rfl
 intro ρ1 σ1 s1' fl f hf N hi
 obtain ⟨rfl,n,hn,rfl⟩:=kF_ok hf
 cases hi
 have hat:(s2 n 0 []).at (nc + 3) = some (.list []):=by
  show lk ((nc + 3,O.list []) :: _) (nc + 3) = _
  rw [lk_cons,if_pos rfl]
 obtain ⟨a,ha,vs,hpl,hv⟩:=N.rel.led _ _ hat
 cases hv
 have Rv:=N.rel.view (o':=.prs 0) ha ⟨[],hpl,rfl,fun _ h=>(nomatch h)⟩
 have e0:(s2 n 0 []).put (nc + 3) (.prs 0) = sp n 0:=by
  show ({ cur:=_,led:=up ((nc + 3,O.list []) :: ledT n) (nc + 3) (.prs 0),nxt:=_,syn:=0,fz:=_ }:St) = _
  rw [up_cons,if_pos rfl]
  rfl
 rw [e0] at Rv
 show wpAny (model PW C.w) A (execs (lapFor :: ([lst 18]++(kindFor :: ([lst 20]++[])))) env) Q E s1'
 rw [lapFor_eq]
 refine one_st (forRb_ok D.gr (cxT_ok D S lawKs) (semL_ok (l:=lapB)) lapRange lapStar) (v:=v0) (ε:=fun _ _=>false) (κ:=kF fun fl σ'=>fl = .next∧∃ k,k≤4∧σ' = sp n k) ?_ (H.mono N.pre) T1 Rv noGo ?_
 ·have go:∀ j,j≤4→forL (semL C lawKs lapB) (asgC TT (compX TT 40 lawKs) lawKs (forT lapFor)) (rangeL 0 j) rT v0 (sp n 0) (kF fun fl σ'=>fl = .next∧∃ k,k≤4∧σ' = sp n k) (fun _ _=>false) = true:=fun j hj=>by
   have:=lapLoop (ε:=fun _ _=>false) (κ:=kF fun fl σ'=>fl = .next∧∃ k,k≤4∧σ' = sp n k) D S K hn (fun k hk=>kF_of ⟨rfl,k,hk,rfl⟩) j 0 (by lia)
   rw [show ((0:Nat):Int) = 0 from rfl] at this
   exact this
  generalize hκ0:(kF fun fl σ'=>fl = Fl.next∧∃ k,k≤4∧σ' = sp n k) = κ0 at go
  generalize ht:asgC TT (compX TT 40 lawKs) lawKs (forT lapFor) = tt at go
  refine (eqLap n (fun _ _=>false) (fun l σ'=>forL (semL C lawKs lapB) tt l rT v0 σ' κ0 (fun _ _=>false))).trans ?_
  exact andB_t (go 4 (by decide)) (andB_t (go 3 (by decide)) (andB_t (go 2 (by decide)) (andB_t (go 1 (by decide)) (andB_t (go 0 (by decide)) rfl))))
 intro ρ2 σ2 s2' fl f hf N2 hi
 obtain ⟨rfl,k,hk,rfl⟩:=kF_ok hf
 cases hi
 have hp2:=N.pre.trans N2.pre
 refine step18 D S (K.lz n k hn.1 hn.2 hk) (H.mono hp2) T1 R hp2 N2.rel fun s3 R3=>?_
 show wpAny (model PW C.w) A (execs (kindFor :: ([lst 20]++[])) env) Q E s3
 rw [kindFor_eq]
 refine one_st (forIb_ok D.gr (cxT_ok D S lawKs) (semL_ok (l:=kindB)) kind_noset) (v:=v0) (ε:=fun _ _=>false) (κ:=kF fun fl σ'=>fl = .next∧∃ y,σ' = s5 y) ?_ H T1 R3 noGo ?_
 ·refine (eqKind (fun u σ'=>forV (semL C lawKs kindB) (asgC TT (compX TT 40 lawKs) lawKs (forT kindFor)) u rT v0 σ' (kF fun fl σ'=>fl = .next∧∃ y,σ' = s5 y) (fun _ _=>false)) (fun _ _=>false)).trans ?_
  exact kindLoop D S K (fun y=>kF_of ⟨rfl,y,rfl⟩) 64 0 none rfl (by decide)
 intro ρ4 σ4 s4' fl f hf N4 hi
 obtain ⟨rfl,y,rfl⟩:=kF_ok hf
 cases hi
 refine one_st (stT_ok D S lawKs (lst 20)) (v:=v0) (ε:=fun _ _=>false) (κ:=kF fun fl _=>fl = .ret (.bool true)) (by rw [eq20];exact kF_of rfl) (H.mono N4.pre) T1 N4.rel noGo ?_
 intro ρ5 σ5 s5' fl f hf N5 hi
 have:=kF_ok hf
 subst this
 cases hi with
 | ret hv =>
  cases hv
  exact hQ ρ5 σ5 s5' N5.rel
end
end Mine
end
section
set_option maxHeartbeats 1000000
namespace Mine
noncomputable section
noncomputable def asT:PySem.Stmt→PySem.Expr | .Assign [t] _ _=>t | _=>default
noncomputable def asE:PySem.Stmt→PySem.Expr | .Assign _ e _=>e | _=>default
noncomputable def asP:PySem.Stmt→Pos | .Assign _ _ p=>p | _=>default
noncomputable def nmP:PySem.Expr→Pos | .Name _ p=>p | _=>default
noncomputable def arg0 (l:List PySem.Expr):PySem.Expr:=match l with | e :: _=>e | []=>default
noncomputable def sA (scr:Nat):St:={ σc with cur:=[(kScript,.top scr)] }
noncomputable def cRow (scr:Nat):Mine.C:=mkC fun _ v σ κ _=>andB (kP (fun _ σ=>σ = sA scr∧v = v0) .none σ) (κ (.loc (nc + 2)) (rowsS [(kScript,.top scr)]))
end
theorem l0_eq:lst 0 = .Assign [.Name "row" (nmP (asT (lst 0)))] (.Call (.Name "_law_row" (nmP (cFun (asE (lst 0))))) [.Name "script" (nmP (arg0 (cArgs (asE (lst 0)))))] [] (cPos (asE (lst 0)))) (asP (lst 0)):=by kernel_rfl
section
variable (r:Rc) (v:Ve) (σ:St) (κ:KX) (ε:KX) (scr:Nat) (κL:KL) (k:St→Bool) (p:Pos)
theorem eqRowN:(cNm TT lawKs (key "_law_row")).x r v σ κ ε = κ (.top rowA) σ:=by kernel_rfl
theorem eqScr:evs (cxN TT lawKs) [.Name "script" p] r v (sA scr) κL ε = κL [.top scr] (sA scr):=by kernel_rfl
theorem eqRowS:(asgC TT (cxN TT lawKs) lawKs (.Name "row" p)).a r v (.loc (nc + 2)) (rowsS [(kScript,.top scr)]) k ε = k (rowsS [(kScript,.top scr),(kRow,.loc (nc + 2))]):=by kernel_rfl
end
section
variable {C:SC} {F:Fm} {ρ ρ1 ρ' ρ0:Va} {σ σ':St} {s s':Shared} {A:Around} {env:Env} {v:Ve} {Q:Flow→Shared→Prop} {E:Value→Shared→Prop} {r:Rc} {rest:List PySem.Stmt}
theorem cRow_ok (D:Gd C TT) (S:StOK C TT) (RK:RowOK C) {scr:Nat} {is:List Int} (hS:ScrOK C scr is) {p q pos:Pos}:WC C lawKs r (.Call (.Name "_law_row" p) [.Name "script" q] [] pos) (cRow scr):=by
 refine mkC_ok (fun _ _=>rfl) fun v σ κ ε h A F env ρ s Q E H R GQ GE=>?_
 refine x0a2 (andB_ok h :) fun h1 h2=>?_
 refine x0a2 (kP_ok h1 :) fun q0q q1q=>?_;subst q0q;subst q1q
 rw [eval_Call_plain (by intro _ _ _ q;cases q)]
 refine wpAny_bind ((name_ok D.gr (r:=r)).x v0 (sA scr) (kP fun u σ'=>u = .top rowA∧σ' = sA scr) ε (by rw [eqRowN];exact kP_of ⟨rfl,rfl⟩) A F env ρ s _ E H R ?_ GE)
 intro ρ1 σ1 s1 u gv hg
 refine x0a2 (kP_ok hg :) fun q0q q1q=>?_;subst q0q;subst q1q
 intro N hv
 cases hv
 refine callWith_of (P:=fun h=>Kept (model PW C.w) h (.ref rowA)) rfl (fun h x=>x) (args_ok (r:=r) (v:=v0) (σ:=sA scr) (ε:=ε) (κ:=fun us σ'=>kP (fun _ σ''=>us = [.top scr]∧σ'' = sA scr) .none σ') (cxN_ok D.gr) rfl (by rw [eqScr];exact (kP_of ⟨rfl,rfl⟩:kP (fun _ σ''=>[V.top scr] = [V.top scr]∧σ'' = sA scr) .none (sA scr) = true)) (H.mono N.pre) N.rel ?_ (GE.next N))
 intro ρ2 σ2 s2 us vs hus
 refine x0a2 (kP_ok hus :) fun q0q q1q=>?_;subst q0q;subst q1q
 intro N2 hvs
 refine x2a3 (hvs.inv :) fun x ws evq hx hr=>?_;subst evq
 cases hr
 cases hx
 have NN:=N.trans N2
 refine ⟨keeps_K RK.keep _ (D.gr.Xs NN.rel),callR_wp (row_ok (d:=1) D S RK hS (Nat.le_refl _) (by decide) H.ar NN.rel fun ρ' a s' N3 ha=>?_)⟩
 exact GQ _ _ _ _ _ h2 (NN.trans N3) (.loc ha)
theorem asg_one (G:Gr C TT) {ks:Kd} {cx:PySem.Expr→Mine.C} (hc:WCx C ks r cx) {x:Str} {p1 p:Pos} {e:PySem.Expr} {c:Mine.C} (he:WC C ks r e c) (ho:okVal (.Name x p1) e = true) :
  WSt C ks r (.Assign [.Name x p1] e p) ⟨fun r v σ κ ε=>c.x r v σ (fun u σ'=>(asgC TT cx ks (.Name x p1)).a r v u σ' (κ .next) ε) ε⟩:=by
 intro v σ κ ε h A F env ρ s Q E H T1 R GS GE
 refine x0a2 (okVal_swap (env:=env) (n:=p.line) ho :) fun g1 g2=>?_
 refine wpAny_Assign_stores (he.x v σ _ ε h A F env ρ s _ E H R ?_ GE) g1 g2
 intro ρ' σ' s' u uv hu N hv
 have hm:(assignEach [PySem.Expr.Name x p1] env).map (·.2) = [assign (.Name x p1) env]:=rfl
 rw [hm,assignAll_one]
 exact asg_ok G hc (.Name x p1) v u σ' _ ε hu A F env ρ' s' uv _ E (H.mono N.pre) N.rel hv (fun ρ'' σ'' s'' hk N'=>GS _ _ _ _ _ hk (N.trans N') .next) (GE.next N)
set_option tactic.hygienic true in
theorem lawBody_ok (D:Gd C TT) (S:StOK C TT) (K:Chk) (RK:RowOK C) {scr:Nat} {is:List Int} (hS:ScrOK C scr is) (H:EnvOK C A F env lawKs v0 ρ) (T1:Top1 F env) (R:Rel C F ρ (sA scr) s)
  (hQ:∀ ρ' σ' s',Rel C F ρ' σ' s'→Q (.ret (.bool true)) s'):wpAny (model PW C.w) A (execs lawBody env) Q E s:=by
 rw [lawBody_eq,l0_eq]
 refine one_st (r:=rT) (asg_one D.gr (cxN_ok D.gr) (cRow_ok D S RK hS) rfl) (v:=v0) (ε:=fun _ _=>false) (κ:=kF fun fl σ'=>fl = .next∧σ' = rowsS [(kScript,.top scr),(kRow,.loc (nc + 2))]) ?_ H T1 R noGo ?_
 ·show andB (kP (fun _ σ=>σ = sA scr∧v0 = v0) .none (sA scr)) ((asgC TT (cxN TT lawKs) lawKs (.Name "row" (nmP (asT (lst 0))))).a rT v0 (.loc (nc + 2)) (rowsS [(kScript,.top scr)]) ((kF fun fl σ'=>fl = .next∧σ' = rowsS [(kScript,.top scr),(kRow,.loc (nc + 2))]) .next) (fun _ _=>false)) = true
  rw [eqRowS]
  exact andB_t (kP_of ⟨rfl,rfl⟩) (kF_of ⟨rfl,rfl⟩)
 intro ρ1 σ1 s1 fl f hf
 refine x0a2 (kF_ok hf :) fun q0q q1q=>?_;subst q0q;subst q1q
 intro N hi
 cases hi
 have R1:Rel C F ρ1 s0 s1:=N.rel.fewer (c:=[(kRow,.loc (nc + 2))]) fun x u e=>by
  show lk [(kScript,V.top scr),(kRow,.loc (nc + 2))] x = some u
  rw [lk_cons] at e ⊢
  (revert e;refine ifR (fun _ e=>?_) fun _ e=>?_)
  ·rename_i q
   rw [if_neg (by rw [← q];decide +kernel),lk_cons,if_pos q];exact e
  ·exact nS' e
 refine steps1 D S K (H.mono N.pre) T1 R1 fun s2 R2=>?_
 exact steps2 D S K (H.mono N.pre) T1 R2 hQ
end
end Mine
end
section
set_option maxHeartbeats 1000000
namespace Mine
structure LawOK (C:SC) (a:Addr):Prop where
 def_:∃ fn fo fd,FnOK C TT fn a fo fd lawBody∧fn.params = [key "script"]∧fn.dflts = []∧fd.scope = lawSc∧∃ c,fd.code = .ref c∧CodeHd C.h0 c C.P∧fd.qualname++".<locals>."++"<lambda>" = C.lq
theorem lawScript:lawSc.names.lookup ("script":Str) = some .local:=by kernel_rfl
section
variable {C:SC} {F:Fm} {ρ ρ1 ρ' ρ0:Va} {σ σ':St} {s s':Shared} {A:Around} {env:Env} {v:Ve} {E:Value→Shared→Prop} {r:Rc} {rest:List PySem.Stmt}
theorem enter0_ok (G:Gr C TT) {fn:Fn} {a:Addr} {fo:Obj} {fd:FuncData} {body:List PySem.Stmt} (K:FnOK C TT fn a fo fd body) {us:List V} {vs:List Value} {b:List (Nat×V)} (hb:bindP fn.params fn.dflts us = some b) (hu:∀ ρ h,IsVs ρ h us vs)
  (hh:∀ a o,C.h0.get? a = some o→s.heap.get? a = some o) (hh':∀ a,s.heap.objs.size≤a→C.h0.get? a = none) (hg:s.gens = C.gens) (ho:s.os = C.os) (hbase:∀ a,C.base.get? a = none) (hT:Tab C s.heap)
  {κ:List (Nat×Nat)→St→Bool} (hl:lay fn.kinds b [] st0 κ = true) {QQ:Env→Shared→Prop}
  (hQ:∀ env cs σ1 ρ1 s1,κ cs σ1 = true→env = envX fd.qualname fd.scope s.heap.objs.size a fd.code (cellsFrom (s.heap.objs.size + 1) fd.scope.names [])→Rel C ⟨[env],s.heap.objs.size,[],[]⟩ ρ1 { σ1 with cur:=locals fn.kinds b } s1 →
   (∀ x n,lk cs (key x) = some n→∃ c,env.cells.lookup x = some c∧ρ1.adr[n]? = some c)→QQ env s1) :
  wpAny (model PW C.w) A (bindArgs fd ⟨vs,[]⟩) (fun binds s₁=>wpAny (model PW C.w) A (newFunctionEnv fd.scope fd.globals fd.closure binds (fd.qualname++".<locals>.") (some a) fd.code none fd.builtins) QQ E s₁) E s:=by
 refine x0a3 (okF_ok K.scope :) fun hk hgen hco=>?_
 have hX:C.K.In s.heap:=fun a o e=>hh _ _ (G.X a o e)
 obtain ⟨ds,hds,hseq⟩:∃ ds:List Value,(∀ ρ h,IsVs ρ h fn.dflts ds)∧∀ (M:Model) (A:Around) (E:Value→Shared→Prop) (Q:Option (Array Value)→Shared→Prop),(∀ x,(x.getD #[]).toList = ds→Q x s)→wpAny M A (seqItems? fd.defaults) Q E s:=by
  rcases K.dfl with ⟨e1,e2⟩ | ⟨t,o,ds,n,e1,e2,e3,e4⟩
  ·refine ⟨[],fun _ _=>by rw [e2];exact .nil,fun M A E Q h=>?_⟩
   rw [e1]
   exact wpAny_pure (h none rfl)
  ·refine ⟨ds.toList,e4,fun M A E Q h=>?_⟩
   rw [e1]
   exact wpAny_seqItems (hX _ _ e2) e3 (h (some ds) rfl)
 rw [K.pars] at hb
 refine x0a3 (bindP_ok (ρ:=⟨[],[]⟩) (h:=s.heap) _ _ _ _ hb vs ds (hu _ _) (hds _ _) (Nat.zero_le _) :) fun b1 b2 b3=>?_
 rw [(hu ⟨[],[]⟩ s.heap).length] at b1 b2
 rw [(hds ⟨[],[]⟩ s.heap).length] at b2
 have hdn:=K.dfn
 rw [K.pars,List.length_map,(hds ⟨[],[]⟩ s.heap).length] at hdn
 have b2':(fd.params.args.map (·.arg)).length≤vs.length + ds.length:=by
  by_cases q:vs.length < (fd.params.args.map (·.arg)).length
  ·exact b2 q
  ·lia
 refine binds_ok K.args rfl K.nodup b1 b2' hdn hseq _ _ _ _ ?_
 have hfst:=laid_fst b1 b2'
 have hnd:((laid (fd.params.args.map (·.arg)) vs ds).map (·.1)).Nodup:=by rw [hfst];exact K.nodup
 have b3':IsKS ⟨[],[]⟩ s.heap b (laid (fd.params.args.map (·.arg)) vs ds):=b3
 generalize hbs:laid (fd.params.args.map (·.arg)) vs ds = bs at *
 rw [K.clo]
 have cn:∀ m,(cellsFrom m fd.scope.names []).map (·.1) = (cellsFrom 0 fd.scope.names []).map (·.1):=fun m=>cellsFrom_names fd.scope.names m 0 [] [] rfl
 have lk_some:∀ {l l':List (Str×Addr)} {x:Str},l.map (·.1) = l'.map (·.1)→(l.lookup x).isSome = (l'.lookup x).isSome:=by
  intro l
  induction l with
  | nil=>intro l' x h;induction l' using List.casesOn with
   | nil=>rfl
   | cons _ _=>cases h
  | cons p r ih =>
   intro l' x h
   induction l' using List.casesOn with
   | nil=>cases h
   | cons q r' =>
    obtain ⟨y,w⟩:=p
    obtain ⟨z,u⟩:=q
    injection h with h1 h2
    dsimp only at h1
    subst h1
    rw [List.lookup_cons,List.lookup_cons]
    induction x == y using Bool.casesOn with
    | true=>rfl
    | false=>exact ih h2
 refine wpAny_newFunctionEnv_cells hk (fun x hx=>?_) fun env' he s' x=>?_
 ·have:x.1∈fd.params.args.map (·.arg):=by rw [← hfst];exact List.mem_map.mpr ⟨x,hx,rfl⟩
  rcases K.parK _ this with q | ⟨q,q2⟩
  ·exact .inl q
  ·exact .inr ⟨q,by rw [lk_some (cn _)];exact q2⟩
 ·refine x2a2 (x.done :) fun h' tk hs' hkeep=>?_
  have hkeep':∀ b o,s.heap.get? b = some o→s'.heap.get? b = some o:=by subst hs';exact hkeep
  have he':env' = envX fd.qualname fd.scope s.heap.objs.size a fd.code (cellsFrom (s.heap.objs.size + 1) fd.scope.names []):=by
   rw [he,K.glob,K.blt];rfl
  have hkof:∀ y,env'.kindOf y = fd.scope.names.lookup y:=fun y=>by rw [he'];rfl
  have hcells:env'.cells = cellsFrom (s.heap.objs.size + 1) fd.scope.names []:=by rw [he']
  have hloc:env'.locals = s.heap.objs.size:=by rw [he']
  have hns:=x.toInCall.ns
  rw [hloc] at hns
  have hlive:∃ o,s'.heap.get? s.heap.objs.size = some o:=x3a2 (hns) fun o _ _ e _=>⟨o,e⟩
  have hmap:NsHas ⟨[],[]⟩ s'.heap (locals fn.kinds b) (bindL env'.kindOf bs fun _=>none):=fun y u e0=>by
   rw [lk_locals,K.kinds,lk_kindsOf] at e0
   rw [bindL_eq _ _ _ hnd,hkof]
   have:=(b3'.mono (Va.le.refl _) (TK.keeps hkeep')).lookup (x:=y)
   induction e:fd.scope.names.lookup y using Option.casesOn with
   | none=>rw [e] at e0;exact nS' e0
   | some k =>
    rw [e] at e0
    induction k using NameKind.casesOn with
    | «local» =>
     dsimp only at e0
     rw [e0] at this
     refine x1a2 this fun vv e3 e4=>?_;clear this
     exact ⟨vv,by simp [e3],e4⟩
    | _=>exact nS' e0
  have R0:Rel C ⟨[env'],s.heap.objs.size,[],[]⟩ ⟨[],[]⟩ { st0 with cur:=locals fn.kinds b } s':={
   bk:=fun a o e=>by rw [hbase] at e;exact nS' e
   bn:=fun n a e _=>by simp at e
   keep:=fun a o e _=>hkeep' _ _ (hh _ _ e)
   fresh:=fun a h=>(nomatch h)
   nodup:=List.nodup_nil
   live:=fun a h=>(nomatch h)
   nxt:=rfl
   syn:=rfl
   led:=fun n o e=>by exact nS' e
   cur:=⟨⟨fun h=>(nomatch h),hh' _ (Nat.le_refl _),hlive,hbase _⟩,_,hns,hmap⟩
   fr:=fun p h=>(nomatch h)
   held:=fun p h=>(nomatch h)
   tab:=x1a3 (hT.tab) fun ps a b c=>⟨⟨ps,hkeep' _ _ a,b,fun pos cv e=>(c pos cv e).keeps hkeep'⟩⟩
   gens:=by subst hs';exact hg
   os:=by subst hs';exact ho
   frames:=by
    refine x3a3 hns fun o es ep e d _=>?_;clear hns
    exact ⟨by rw [he'];show fd.scope.kind≠_;rw [hk];decide,⟨s.heap.objs.size,o,by rw [he'],hh' _ (Nat.le_refl _),e,fun vs q=>by rw [d] at q;cases q⟩,trivial⟩
   fsL:=fun e2 he2 b2 hf2=>by
    rw [List.mem_singleton.mp he2,he'] at hf2
    exact .inl (Option.some.inj hf2).symm }
  rw [K.kinds] at hl
  have hnd2:((cellsFrom (s.heap.objs.size + 1) fd.scope.names []).map (·.1)).Nodup:=by rw [cn];exact K.cellsNd
  have hl':lay (kindsOf fd.scope) b [] { st0 with cur:=locals fn.kinds b } (fun cs σ1=>κ cs { σ1 with cur:=[] }) = true:=by
   rw [lay_R] at hl ⊢
   have:∀ (ks:Kd) (cs:List (Nat×Nat)) (σ:St) (c:List (Nat×V)),(layR ks b cs { σ with cur:=c }).1 = (layR ks b cs σ).1∧(layR ks b cs { σ with cur:=c }).2 = { (layR ks b cs σ).2 with cur:=c }∧(layR ks b cs σ).2.cur = σ.cur:=by
    intro ks
    induction ks with
    | nil=>intro cs σ c;exact ⟨rfl,rfl,rfl⟩
    | cons p ks ih =>
     obtain ⟨y,k⟩:=p
     intro cs σ c
     induction k using NameKind.casesOn with
     | cell=>exact ih ((y,σ.nxt) :: cs) (σ.new (.cell (lk b y))) c
     | _=>exact ih cs σ c
   refine x0a3 (this (kindsOf fd.scope) [] st0 (locals fn.kinds b) :) fun q1 q2 q3=>?_
   rw [q1,q2]
   have e3:({ ({ (layR (kindsOf fd.scope) b [] st0).2 with cur:=locals fn.kinds b }:St) with cur:=[] }:St) = (layR (kindsOf fd.scope) b [] st0).2:=by
    have q3':(layR (kindsOf fd.scope) b [] st0).2.cur = []:=q3
    generalize (layR (kindsOf fd.scope) b [] st0).2 = τ at q3'
    obtain ⟨c1,c2,c3,c4,c5⟩:=τ
    simp only at q3'
    subst q3'
    rfl
   rw [e3];exact hl
  refine x3a6 (lay_ok (s:=s') (cm:=bindC env'.kindOf bs fun _=>none) fd.scope.names ⟨[],[]⟩ _ (s.heap.objs.size + 1) [] [] _ hl' R0
   (fun a ha=>(nomatch ha)) (Nat.lt_succ_self _) (fun p hp=>(nomatch hp)) (fun p hp=>(nomatch hp)) (fun a q=>hh' a (by lia)) (fun a q=>hbase a)
   (fun y c hm _=>x.cell y c (by rw [hcells];exact lookup_of_mem_nodup hnd2 hm))
   (fun _ _ q=>by cases q)
   (fun y hy=>by
    have hkc:=K.cellK _ hy rfl
    have:=(b3'.mono (Va.le.refl _) (TK.keeps hkeep')).lookup (x:=y)
    rw [bindC_eq _ _ _ hnd,hkof,hkc]
    induction e:lk b (key y) using Option.casesOn with
    | none=>trivial
    | some u =>
     rw [e] at this
     obtain ⟨vv,e1,e2⟩:=this
     exact ⟨vv,by simp [e1],e2⟩)
   (fun _ _ q=>by cases q) :) fun cs σ1 ρ1 g1 g2 g3 g4 g5 g6=>?_
  have e5:({ ({ σ1 with cur:=[] }:St) with cur:=locals fn.kinds b }:St) = σ1:=by
   obtain ⟨c1,c2,c3,c4,c5⟩:=σ1
   simp only at g4
   rw [g4]
  refine hQ env' cs { σ1 with cur:=[] } ρ1 s' g1 he' ?_ (fun y n e=>by rw [hcells];exact g6 y n e)
  rw [e5]
  exact g2
theorem law_call (D:Gd C TT) (S:StOK C TT) (K:Chk) (RK:RowOK C) {a:Addr} (LK:LawOK C a) {scr:Nat} {is:List Int} (hS:ScrOK C scr is) (hh:s.heap = C.h0) (hg:s.gens = C.gens) (ho:s.os = C.os) (hbase:∀ a,C.base.get? a = none) (hT:Tab C s.heap)
  {Q:Value→Shared→Prop} (hQ:∀ F ρ' σ' s',Rel C F ρ' σ' s'→Q (.bool true) s'):wpAny (model PW C.w) callerA (call (.ref a) [.ref scr]) Q E s:=by
 have G:=D.gr
 obtain ⟨fn,fo,fd,KF,hpar,hdf,hsc,c,hcode,hhd,hlq⟩:=LK.def_
 refine x0a3 (okF_ok KF.scope :) fun hk hgen hco=>?_
 have hX:C.K.In s.heap:=fun a o e=>by rw [hh];exact G.X a o e
 have hcr:s.heap.CodeRec fd.code fd.qualname:=x4a4 KF.code fun c o vs t e k d q=>⟨c,o,vs,t,e,hX _ _ k,d,q⟩
 refine callR_wp ?_
 have hb:bindP fn.params fn.dflts [.top scr] = some [(key "script",.top scr)]:=by rw [hpar,hdf];rfl
 refine codeAny_call_function (by decide +kernel) (hX _ _ KF.at_) KF.data hco hgen KF.bodyE hcr ?_
 refine enter0_ok (κ:=fun cs σ1=>kP (fun _ σ=>cs = cs0∧σ = σc) .none σ1) G KF hb (fun _ _=>.cons .top .nil) (fun a o e=>by rw [hh];exact e) (fun a h=>by rw [← hh];exact Heap.get?_none_of_le h) hg ho hbase hT ?_ fun env cs σ1 ρ1 s1 hκ he R1 hm=>?_
 ·rw [KF.kinds,hsc]
  have:layR (kindsOf lawSc) [(key "script",V.top scr)] [] st0 = layR (kindsOf lawSc) [] [] st0:=by kernel_rfl
  refine (lay_R _ _ _).trans ?_
  rw [this]
  exact kP_of (P:=fun _ σ=>(layR (kindsOf lawSc) [] [] st0).1 = cs0∧σ = σc) ⟨rfl,rfl⟩
 refine x0a2 (kP_ok hκ :) fun q0q q1q=>?_;subst q0q;subst q1q
 have hlims:s1.heap.NoLimit:=G.lims R1
 refine ⟨hlims,codeAny_func ?_⟩
 have hqual:env.scope = fd.scope:=by rw [he]
 have H:EnvOK C (callerA.deeper env) ⟨[env],s.heap.objs.size,[],[]⟩ env lawKs v0 ρ1:={
  glob:=by rw [he];exact ⟨rfl,rfl⟩
  loc:=by rw [he] <;> rfl
  kind:=by rw [hqual];exact hk
  ks:=by rw [hqual,hsc];rfl
  cells:=hm
  frames:=rfl
  hand:=rfl
  depth:=by show callerA.depth + 1≤2 + claimMargin + 3 * 1;exact Nat.le_of_lt (Nat.lt_of_lt_of_le (by show 1 + claimMargin + 1 < 2 + claimMargin + 3 * 1;lia) (Nat.le_refl _))
  units:=by show callerA.units + 3≤20 + 20 * 1;show 4 + 3≤_;lia
  dep:=by show 1≤60;lia
  law:=fun _=>⟨c,by rw [he];exact hcode,hhd,by rw [he];exact hlq⟩ }
 have T1:Top1 (⟨[env],s.heap.objs.size,[],[]⟩:Fm) env:=⟨⟨[],rfl⟩,by rw [he] <;> rfl⟩
 have hl:locals fn.kinds [(key "script",V.top scr)] = [(kScript,.top scr)]:=by
  rw [KF.kinds,hsc]
  show isLoc (lk (kindsOf lawSc) (key "script")) (key "script",V.top scr) [] = _
  rw [lk_kindsOf,lawScript]
  rfl
 rw [hl] at R1
 refine wpAny_mono (E:=fun _ _=>False) (lawBody_ok D S K RK hS H T1 R1 (Q:=fun f s'=>f = .ret (.bool true)∧∃ F ρ' σ',Rel C F ρ' σ' s') fun ρ' σ' s' R'=>⟨rfl,_,_,_,R'⟩) (fun f s' ⟨e,F,ρ',σ',R'⟩=>?_) fun _ _ x=>x.elim
 subst e
 exact hQ F ρ' σ' s' R'
end
end Mine
end
section
noncomputable section
namespace Mine
open PySem PySem.W
noncomputable def kS (x:String) (t:Nat):Value:=.str (Str.ofString x) t
noncomputable def kI (i:Int):Value:=.int i 0
noncomputable def kE (P:Params) (x:String) (t:Nat) (v:Value):DictEntry:=⟨PyData.keyHash P (Str.ofString x),.str (Str.ofString x) t,v⟩
noncomputable def kFn (q:String) (dfl pm cd:Value) (d:Option PySem.Stmt):Obj:=match d with
 | some (.FunctionDef name args body _ _ _ sc _ _ _)=>{ cls:=.type "function",data:=.func { name:=name,qualname:=Str.ofString q,params:=args,body:=.stmts body,scope:=sc,globals:=3,closure:=[],defaults:=dfl,kwdefaults:=.none,doc:=.none,pyModule:=pm,annotations:=none,code:=cd,closureTuple:=.none,builtins:=0 } }
 | _=>default
noncomputable def kC (fs:List Value):Obj:={ cls:=.type "code",data:=.fields fs.toArray }
noncomputable def kT (xs:List Value) (n:Nat):Obj:={ cls:=.type "tuple",data:=.seq xs.toArray n }
noncomputable def kD (es:List DictEntry) (n:Nat):Obj:={ cls:=.type "dict",data:=.dict es.toArray n }
noncomputable def kN (es:List DictEntry) (n:Nat):Obj:={ cls:=.none,data:=.dict es.toArray n }
noncomputable def kK (c:ClassData) (sl:List (Option Value)):Obj:={ cls:=.type "type",data:=.cls c,slots:=sl.toArray }
structure Kf where
 a:Addr
 q:String
 dfl:Value
 pm:Value
 cd:Value
 d:Option PySem.Stmt
noncomputable def kfM:List Kf:=[
⟨28,"net_kinds",.none,(kS "gateloom.design" 194),(.ref 27),(defAt 2)⟩,
⟨42,"Signal.__init__",.none,(kS "gateloom.design" 194),(.ref 41),(methAt 3 0)⟩,
⟨49,"Signal.is_net",.none,(kS "gateloom.design" 194),(.ref 48),(methAt 3 1)⟩,
⟨56,"Signal.is_memory",.none,(kS "gateloom.design" 194),(.ref 55),(methAt 3 2)⟩,
⟨98,"AssignDef.__init__",.none,(kS "gateloom.design" 194),(.ref 97),(methAt 4 0)⟩,
⟨119,"GateDef.__init__",.none,(kS "gateloom.design" 194),(.ref 118),(methAt 5 0)⟩,
⟨140,"Design.__init__",.none,(kS "gateloom.design" 194),(.ref 139),(methAt 6 0)⟩,
⟨147,"Design.add_signal",.none,(kS "gateloom.design" 194),(.ref 146),(methAt 6 1)⟩,
⟨154,"Design.add_scope",.none,(kS "gateloom.design" 194),(.ref 153),(methAt 6 2)⟩,
⟨204,"GateloomError.__init__",(.ref 197),(kS "gateloom.errors" 463),(.ref 203),(methAt 8 0)⟩,
⟨241,"mask",.none,(kS "gateloom.vec" 533),(.ref 240),(defAt 12)⟩,
⟨249,"vec",(.ref 242),(kS "gateloom.vec" 533),(.ref 248),(defAt 13)⟩,
⟨270,"all_z",.none,(kS "gateloom.vec" 533),(.ref 269),(defAt 16)⟩,
⟨298,"code",.none,(kS "gateloom.vec" 533),(.ref 297),(defAt 20)⟩,
⟨305,"slice_vec",.none,(kS "gateloom.vec" 533),(.ref 304),(defAt 21)⟩,
⟨312,"put_slice",.none,(kS "gateloom.vec" 533),(.ref 311),(defAt 22)⟩,
⟨326,"extend",.none,(kS "gateloom.vec" 533),(.ref 325),(defAt 24)⟩,
⟨354,"Store.__init__",.none,(kS "gateloom.store" 679),(.ref 353),(methAt 28 0)⟩,
⟨361,"Store.get",.none,(kS "gateloom.store" 679),(.ref 360),(methAt 28 1)⟩,
⟨375,"Store.set_bits",.none,(kS "gateloom.store" 679),(.ref 374),(methAt 28 3)⟩,
⟨397,"Context.__init__",(.ref 390),(kS "gateloom.store" 679),(.ref 396),(methAt 29 0)⟩,
⟨773,"evaluate",.none,(kS "gateloom.evaluate" 1172),(.ref 772),(defAt 84)⟩,
⟨780,"locate",.none,(kS "gateloom.evaluate" 1172),(.ref 779),(defAt 85)⟩,
⟨787,"holder_width",.none,(kS "gateloom.evaluate" 1172),(.ref 786),(defAt 86)⟩,
⟨794,"resolve_target",.none,(kS "gateloom.evaluate" 1172),(.ref 793),(defAt 87)⟩,
⟨801,"store_rows",.none,(kS "gateloom.evaluate" 1172),(.ref 800),(defAt 88)⟩,
⟨903,"children",.none,(kS "gateloom.walks" 1482),(.ref 902),(defAt 100)⟩,
⟨990,"last_select",.none,(kS "gateloom.elabparts" 1607),(.ref 989),(defAt 115)⟩,
⟨997,"is_memory",.none,(kS "gateloom.elabparts" 1607),(.ref 996),(defAt 116)⟩,
⟨1004,"shape",.none,(kS "gateloom.elabparts" 1607),(.ref 1003),(defAt 117)⟩,
⟨1011,"read_entry",.none,(kS "gateloom.elabparts" 1607),(.ref 1010),(defAt 118)⟩,
⟨1018,"folds",.none,(kS "gateloom.elabparts" 1607),(.ref 1017),(defAt 119)⟩,
⟨1025,"folded",.none,(kS "gateloom.elabparts" 1607),(.ref 1024),(defAt 120)⟩,
⟨1074,"widen",.none,(kS "gateloom.elabparts" 1607),(.ref 1073),(defAt 127)⟩,
⟨1102,"entry_of",.none,(kS "gateloom.elabexpr" 1743),(.ref 1101),(defAt 132)⟩,
⟨1109,"base_entry",.none,(kS "gateloom.elabexpr" 1743),(.ref 1108),(defAt 133)⟩,
⟨1130,"named_type",.none,(kS "gateloom.elabexpr" 1743),(.ref 1129),(defAt 136)⟩,
⟨1137,"named_value",.none,(kS "gateloom.elabexpr" 1743),(.ref 1136),(defAt 137)⟩,
⟨1207,"expr_type",.none,(kS "gateloom.elabexpr" 1743),(.ref 1206),(defAt 148)⟩,
⟨1228,"build",.none,(kS "gateloom.elabexpr" 1743),(.ref 1227),(defAt 151)⟩,
⟨1235,"self_determined",.none,(kS "gateloom.elabexpr" 1743),(.ref 1234),(defAt 152)⟩,
⟨1242,"sized",.none,(kS "gateloom.elabexpr" 1743),(.ref 1241),(defAt 153)⟩,
⟨1270,"flat_parts",.none,(kS "gateloom.elablv" 2022),(.ref 1269),(defAt 158)⟩,
⟨1277,"check_entry",.none,(kS "gateloom.elablv" 2022),(.ref 1276),(defAt 159)⟩,
⟨1284,"target_part",.none,(kS "gateloom.elablv" 2022),(.ref 1283),(defAt 160)⟩,
⟨1291,"target",.none,(kS "gateloom.elablv" 2022),(.ref 1290),(defAt 161)⟩,
⟨1298,"moved",.none,(kS "gateloom.elablv" 2022),(.ref 1297),(defAt 162)⟩,
⟨1305,"slice_target",.none,(kS "gateloom.elablv" 2022),(.ref 1304),(defAt 163)⟩,
⟨1312,"one_bit",.none,(kS "gateloom.elablv" 2022),(.ref 1311),(defAt 164)⟩,
⟨1319,"one_bit_target",.none,(kS "gateloom.elablv" 2022),(.ref 1318),(defAt 166)⟩,
⟨1326,"default_strength",.none,(kS "gateloom.elabconn" 2119),(.ref 1325),(defAt 168)⟩,
⟨1331,"delay_values",.none,(kS "gateloom.elabconn" 2119),(.ref 1330),(defAt 169)⟩,
⟨1338,"piece_place",.none,(kS "gateloom.elabconn" 2119),(.ref 1337),(defAt 170)⟩,
⟨1345,"value_bit",.none,(kS "gateloom.elabconn" 2119),(.ref 1344),(defAt 171)⟩,
⟨1352,"target_bit",.none,(kS "gateloom.elabconn" 2119),(.ref 1351),(defAt 172)⟩,
⟨1359,"output_count",.none,(kS "gateloom.elabconn" 2119),(.ref 1358),(defAt 173)⟩,
⟨1366,"make_gate",.none,(kS "gateloom.elabconn" 2119),(.ref 1365),(defAt 174)⟩,
⟨1373,"matched_connections",.none,(kS "gateloom.elabconn" 2119),(.ref 1372),(defAt 175)⟩,
⟨1380,"whole_target",.none,(kS "gateloom.elabconn" 2119),(.ref 1379),(defAt 176)⟩,
⟨1387,"input_assign",.none,(kS "gateloom.elabconn" 2119),(.ref 1386),(defAt 177)⟩,
⟨1394,"output_assign",.none,(kS "gateloom.elabconn" 2119),(.ref 1393),(defAt 178)⟩,
⟨1408,"Scope.__init__",.none,(kS "gateloom.scopes" 2253),(.ref 1407),(methAt 180 0)⟩,
⟨1422,"Scope.declare",.none,(kS "gateloom.scopes" 2253),(.ref 1421),(methAt 180 2)⟩,
⟨1436,"Scope.lookup",.none,(kS "gateloom.scopes" 2253),(.ref 1435),(methAt 180 4)⟩,
⟨1492,"_law_bits",.none,(kS "law_ok0101_01" 2372),(.ref 1491),(defAt 184)⟩,
⟨1499,"_law_made",.none,(kS "law_ok0101_01" 2372),(.ref 1498),(defAt 185)⟩,
⟨1511,"_law_matched",.none,(kS "law_ok0101_01" 2372),(.ref 1510),(defAt 187)⟩,
⟨1518,"_law_outputs",.none,(kS "law_ok0101_01" 2372),(.ref 1517),(defAt 188)⟩,
⟨1525,"_law_stored",.none,(kS "law_ok0101_01" 2372),(.ref 1524),(defAt 189)⟩]
noncomputable def kfS:List Kf:=[
⟨1478,"_law_row",.none,(kS "law_ok0101_01" 2372),(.ref 1477),(defAt 182)⟩,
⟨1485,"_law_next",.none,(kS "law_ok0101_01" 2372),(.ref 1484),(defAt 183)⟩,
⟨1506,"_law_kept",.none,(kS "law_ok0101_01" 2372),(.ref 1505),(defAt 186)⟩,
⟨1530,"law",.none,(kS "law_ok0101_01" 2372),(.ref 1529),(defAt 190)⟩]
noncomputable def kfL:List Kf:=kfM++kfS
noncomputable def KKr (P:Params):Frag:=[
(1,(kD [kE P "builtins" 162 (.ref 4),kE P "__main__" 163 (.ref 5)] 2)),
(2,(kN [kE P "type.__subclasses__.Exception.0" 497 (kI 207),kE P "type.__subclasses__.Exception.n" 498 (kI 1)] 2)),
(3,(kD [kE P "__name__" 165 (kS "law_ok0101_01" 2372),kE P "__doc__" 166 .none,kE P "__package__" 167 .none,kE P "__loader__" 168 (.builtin "__main__.__loader__#opaque"),kE P "__spec__" 169 .none,kE P "__annotations__" 170 (.ref 6),kE P "__builtins__" 171 (.ref 4),kE P "__file__" 173 (kS "/claim/cut.py" 172),kE P "__cached__" 174 .none,kE P "_wall" 193 (.ref 21),kE P "net_kinds" 201 (.ref 28),kE P "Signal" 286 (.ref 80),kE P "AssignDef" 323 (.ref 101),kE P "GateDef" 362 (.ref 122),kE P "Design" 462 (.ref 185),kE P "GateloomError" 500 (.ref 207),kE P "DesignError" 516 (.ref 220),kE P "LimitReached" 532 (.ref 232),kE P "mask" 541 (.ref 241),kE P "vec" 552 (.ref 249),kE P "zeros" 559 (.ref 256),kE P "all_x" 567 (.ref 263),kE P "all_z" 574 (.ref 270),kE P "from_int" 582 (.ref 277),kE P "is_known" 589 (.ref 284),kE P "to_int" 600 (.ref 291),kE P "code" 608 (.ref 298),kE P "slice_vec" 624 (.ref 305),kE P "put_slice" 640 (.ref 312),kE P "concat" 651 (.ref 319),kE P "extend" 664 (.ref 326),kE P "z_to_x" 671 (.ref 333),kE P "truth" 678 (.ref 340),kE P "Store" 746 (.ref 378),kE P "Context" 805 (.ref 421),kE P "add" 815 (.ref 432),kE P "sub" 823 (.ref 439),kE P "mul" 831 (.ref 446),kE P "neg" 838 (.ref 453),kE P "quotient" 847 (.ref 460),kE P "div" 858 (.ref 467),kE P "mod" 869 (.ref 474),kE P "raise_whole" 882 (.ref 481),kE P "power" 895 (.ref 488),kE P "shift_left" 905 (.ref 495),kE P "shift_right" 914 (.ref 502),kE P "shift_arith" 929 (.ref 509),kE P "ordered" 940 (.ref 516),kE P "less" 950 (.ref 523),kE P "less_equal" 960 (.ref 530),kE P "greater" 969 (.ref 537),kE P "greater_equal" 978 (.ref 544),kE P "one_bit" 987 (.ref 1312),kE P "one_bit_vecops" 988 (.ref 551),kE P "bit_not" 998 (.ref 558),kE P "bit_and" 1012 (.ref 565),kE P "bit_or" 1027 (.ref 572),kE P "bit_xor" 1036 (.ref 579),kE P "bit_xnor" 1044 (.ref 586),kE P "reduce_and" 1054 (.ref 593),kE P "reduce_nand" 1061 (.ref 600),kE P "reduce_or" 1068 (.ref 607),kE P "reduce_nor" 1075 (.ref 614),kE P "reduce_xor" 1084 (.ref 621),kE P "reduce_xnor" 1091 (.ref 628),kE P "logic_not" 1098 (.ref 635),kE P "logic_and" 1106 (.ref 642),kE P "logic_or" 1114 (.ref 649),kE P "equal" 1123 (.ref 656),kE P "not_equal" 1131 (.ref 663),kE P "case_equal" 1139 (.ref 670),kE P "case_not_equal" 1147 (.ref 677),kE P "matches" 1158 (.ref 684),kE P "choose" 1171 (.ref 691),kE P "unary" 1181 (.ref 698),kE P "arithmetic" 1191 (.ref 705),kE P "comparison" 1201 (.ref 712),kE P "bitwise" 1210 (.ref 719),kE P "binary" 1221 (.ref 726),kE P "whole_of" 1230 (.ref 733),kE P "memory_word" 1240 (.ref 740),kE P "picked" 1250 (.ref 747),kE P "conditional" 1260 (.ref 754),kE P "bits_needed" 1268 (.ref 761),kE P "system_value" 1279 (.ref 1165),kE P "system_value_evaluate" 1280 (.ref 768),kE P "evaluate" 1286 (.ref 773),kE P "locate" 1295 (.ref 780),kE P "holder_width" 1303 (.ref 787),kE P "resolve_target" 1322 (.ref 794),kE P "store_rows" 1339 (.ref 801),kE P "DEPTH_LIMIT" 1343 (.int 24 1342),kE P "FunctionContext" 1410 (.ref 845),kE P "run_block" 1420 (.ref 854),kE P "run_set" 1430 (.ref 861),kE P "run_case" 1443 (.ref 868),kE P "run_while" 1454 (.ref 875),kE P "run_repeat" 1464 (.ref 882),kE P "run_for" 1472 (.ref 889),kE P "run_statement" 1481 (.ref 896),kE P "children" 1491 (.ref 903),kE P "subexpressions" 1502 (.ref 910),kE P "expr_reads" 1511 (.ref 917),kE P "expr_calls" 1520 (.ref 924),kE P "target_indexes" 1529 (.ref 931),kE P "target_writes" 1538 (.ref 938),kE P "stmt_parts" 1544 (.ref 943),kE P "substatements" 1555 (.ref 950),kE P "stmt_targets" 1561 (.ref 955),kE P "stmt_exprs" 1573 (.ref 962),kE P "stmt_reads" 1584 (.ref 969),kE P "stmt_writes" 1595 (.ref 976),kE P "stmt_calls" 1606 (.ref 983),kE P "MAX_WIDTH" 1610 (.int 65536 1609),kE P "last_select" 1619 (.ref 990),kE P "is_memory" 1627 (.ref 997),kE P "shape" 1637 (.ref 1004),kE P "read_entry" 1647 (.ref 1011),kE P "folds" 1654 (.ref 1018),kE P "folded" 1662 (.ref 1025),kE P "checked_width" 1670 (.ref 1032),kE P "selected" 1679 (.ref 1039),kE P "text_vec" 1688 (.ref 1046),kE P "inner_join" 1695 (.ref 1053),kE P "is_context_operator" 1702 (.ref 1060),kE P "is_shift" 1709 (.ref 1067),kE P "widen" 1718 (.ref 1074),kE P "number_value" 1729 (.ref 1081),kE P "is_constant" 1742 (.ref 1088),kE P "path_names" 1755 (.ref 1095),kE P "entry_of" 1764 (.ref 1102),kE P "base_entry" 1774 (.ref 1109),kE P "select_width" 1782 (.ref 1116),kE P "select_where" 1800 (.ref 1123),kE P "named_type" 1810 (.ref 1130),kE P "named_value" 1823 (.ref 1137),kE P "function_of" 1833 (.ref 1144),kE P "call_value" 1845 (.ref 1151),kE P "system_type" 1855 (.ref 1158),kE P "system_value_elabexpr" 1867 (.ref 1165),kE P "joined_parts" 1877 (.ref 1172),kE P "copies" 1886 (.ref 1179),kE P "joined_width" 1896 (.ref 1186),kE P "joined_value" 1907 (.ref 1193),kE P "both_types" 1918 (.ref 1200),kE P "expr_type" 1928 (.ref 1207),kE P "unary_value" 1939 (.ref 1214),kE P "binary_value" 1955 (.ref 1221),kE P "build" 1969 (.ref 1228),kE P "self_determined" 1979 (.ref 1235),kE P "sized" 1990 (.ref 1242),kE P "constant_vec" 2000 (.ref 1249),kE P "constant" 2010 (.ref 1256),kE P "whole" 2021 (.ref 1263),kE P "flat_parts" 2033 (.ref 1270),kE P "check_entry" 2044 (.ref 1277),kE P "target_part" 2059 (.ref 1284),kE P "target" 2072 (.ref 1291),kE P "moved" 2080 (.ref 1298),kE P "slice_target" 2099 (.ref 1305),kE P "one_bit_elablv" 2109 (.ref 1312),kE P "one_bit_target" 2118 (.ref 1319),kE P "default_strength" 2128 (.ref 1326),kE P "delay_values" 2134 (.ref 1331),kE P "piece_place" 2145 (.ref 1338),kE P "value_bit" 2157 (.ref 1345),kE P "target_bit" 2168 (.ref 1352),kE P "output_count" 2179 (.ref 1359),kE P "make_gate" 2200 (.ref 1366),kE P "matched_connections" 2214 (.ref 1373),kE P "whole_target" 2222 (.ref 1380),kE P "input_assign" 2237 (.ref 1387),kE P "output_assign" 2252 (.ref 1394),kE P "Scope" 2371 (.ref 1467),kE P "_law_row" 2384 (.ref 1478),kE P "_law_next" 2391 (.ref 1485),kE P "_law_bits" 2403 (.ref 1492),kE P "_law_made" 2413 (.ref 1499),kE P "_law_kept" 2421 (.ref 1506),kE P "_law_matched" 2427 (.ref 1511),kE P "_law_outputs" 2435 (.ref 1518),kE P "_law_stored" 2446 (.ref 1525),kE P "law" 2452 (.ref 1530)] 183)),
(27,(kC [(kS "net_kinds" 196),(kS "net_kinds" 197),(kS "/claim/cut.py" 198),(kI 5),(kI 0),(kI 0),(kI 0),(kI 3),(.ref 22),(.bool true),(kI 181),(.ref 23),.none,(.ref 24),(.ref 25),(.ref 26),(kI 199),(kI 5),(kS "/claim/cut.py" 200)])),
(41,(kC [(kS "__init__" 214),(kS "Signal.__init__" 215),(kS "/claim/cut.py" 216),(kI 9),(kI 8),(kI 0),(kI 0),(kI 3),(.ref 36),(.bool true),(kI 181),(.ref 37),.none,(.ref 38),(.ref 39),(.ref 40),(kI 225),(kI 9),(kS "/claim/cut.py" 226)])),
(48,(kC [(kS "is_net" 228),(kS "Signal.is_net" 229),(kS "/claim/cut.py" 230),(kI 23),(kI 1),(kI 0),(kI 0),(kI 3),(.ref 43),(.bool true),(kI 181),(.ref 44),.none,(.ref 45),(.ref 46),(.ref 47),(kI 232),(kI 23),(kS "/claim/cut.py" 233)])),
(55,(kC [(kS "is_memory" 235),(kS "Signal.is_memory" 236),(kS "/claim/cut.py" 237),(kI 26),(kI 1),(kI 0),(kI 0),(kI 3),(.ref 50),(.bool true),(kI 181),(.ref 51),.none,(.ref 52),(.ref 53),(.ref 54),(kI 239),(kI 26),(kS "/claim/cut.py" 240)])),
(79,(kD [kE P "__module__" 209 (kS "gateloom.design" 194),kE P "__firstlineno__" 213 (.int 7 212),kE P "__init__" 227 (.ref 42),kE P "is_net" 234 (.ref 49),kE P "is_memory" 241 (.ref 56),kE P "words" 248 (.ref 63),kE P "offset" 257 (.ref 70),kE P "place" 266 (.ref 77),kE P "__static_attributes__" 279 (.ref 78),kE P "__dict__" 281 (.ref 81),kE P "__weakref__" 283 (.ref 82),kE P "__doc__" 284 .none] 4)),
(80,(kK { name:=(Str.ofString "Signal"),bases:=[(.type "object")],mro:=[(.ref 80),(.type "object")],ns:=79,qualname:=(Str.ofString "Signal"),hasDict:=true,slotNames:=[],subclasses:=[],abstract:=false,collection:=none,hasDel:=false } [none,none,some (kS "Signal" 202),some (kS "Signal" 210),some (.builtin "object.__new__"),some (.bool true)])),
(97,(kC [(kS "__init__" 299),(kS "AssignDef.__init__" 300),(kS "/claim/cut.py" 301),(kI 55),(kI 6),(kI 0),(kI 0),(kI 3),(.ref 92),(.bool true),(kI 181),(.ref 93),.none,(.ref 94),(.ref 95),(.ref 96),(kI 308),(kI 55),(kS "/claim/cut.py" 309)])),
(100,(kD [kE P "__module__" 294 (kS "gateloom.design" 194),kE P "__firstlineno__" 298 (.int 53 297),kE P "__init__" 310 (.ref 98),kE P "__static_attributes__" 316 (.ref 99),kE P "__dict__" 318 (.ref 102),kE P "__weakref__" 320 (.ref 103),kE P "__doc__" 321 .none] 4)),
(101,(kK { name:=(Str.ofString "AssignDef"),bases:=[(.type "object")],mro:=[(.ref 101),(.type "object")],ns:=100,qualname:=(Str.ofString "AssignDef"),hasDict:=true,slotNames:=[],subclasses:=[],abstract:=false,collection:=none,hasDel:=false } [none,none,some (kS "AssignDef" 287),some (kS "AssignDef" 295),some (.builtin "object.__new__"),some (.bool true)])),
(118,(kC [(kS "__init__" 336),(kS "GateDef.__init__" 337),(kS "/claim/cut.py" 338),(kI 63),(kI 7),(kI 0),(kI 0),(kI 3),(.ref 113),(.bool true),(kI 181),(.ref 114),.none,(.ref 115),(.ref 116),(.ref 117),(kI 346),(kI 63),(kS "/claim/cut.py" 347)])),
(121,(kD [kE P "__module__" 331 (kS "gateloom.design" 194),kE P "__firstlineno__" 335 (.int 61 334),kE P "__init__" 348 (.ref 119),kE P "__static_attributes__" 355 (.ref 120),kE P "__dict__" 357 (.ref 123),kE P "__weakref__" 359 (.ref 124),kE P "__doc__" 360 .none] 4)),
(122,(kK { name:=(Str.ofString "GateDef"),bases:=[(.type "object")],mro:=[(.ref 122),(.type "object")],ns:=121,qualname:=(Str.ofString "GateDef"),hasDict:=true,slotNames:=[],subclasses:=[],abstract:=false,collection:=none,hasDel:=false } [none,none,some (kS "GateDef" 324),some (kS "GateDef" 332),some (.builtin "object.__new__"),some (.bool true)])),
(139,(kC [(kS "__init__" 375),(kS "Design.__init__" 376),(kS "/claim/cut.py" 377),(kI 72),(kI 1),(kI 0),(kI 0),(kI 3),(.ref 134),(.bool true),(kI 181),(.ref 135),.none,(.ref 136),(.ref 137),(.ref 138),(kI 379),(kI 72),(kS "/claim/cut.py" 380)])),
(146,(kC [(kS "add_signal" 382),(kS "Design.add_signal" 383),(kS "/claim/cut.py" 384),(kI 85),(kI 8),(kI 0),(kI 0),(kI 3),(.ref 141),(.bool true),(kI 181),(.ref 142),.none,(.ref 143),(.ref 144),(.ref 145),(kI 394),(kI 85),(kS "/claim/cut.py" 395)])),
(153,(kC [(kS "add_scope" 397),(kS "Design.add_scope" 398),(kS "/claim/cut.py" 399),(kI 92),(kI 2),(kI 0),(kI 0),(kI 3),(.ref 148),(.bool true),(kI 181),(.ref 149),.none,(.ref 150),(.ref 151),(.ref 152),(kI 402),(kI 92),(kS "/claim/cut.py" 403)])),
(184,(kD [kE P "__module__" 370 (kS "gateloom.design" 194),kE P "__firstlineno__" 374 (.int 70 373),kE P "__init__" 381 (.ref 140),kE P "add_signal" 396 (.ref 147),kE P "add_scope" 404 (.ref 154),kE P "add_routine" 415 (.ref 161),kE P "add_process" 426 (.ref 168),kE P "find" 434 (.ref 175),kE P "routine" 443 (.ref 182),kE P "__static_attributes__" 455 (.ref 183),kE P "__dict__" 457 (.ref 186),kE P "__weakref__" 459 (.ref 187),kE P "__doc__" 460 .none] 4)),
(185,(kK { name:=(Str.ofString "Design"),bases:=[(.type "object")],mro:=[(.ref 185),(.type "object")],ns:=184,qualname:=(Str.ofString "Design"),hasDict:=true,slotNames:=[],subclasses:=[],abstract:=false,collection:=none,hasDel:=false } [none,none,some (kS "Design" 363),some (kS "Design" 371),some (.builtin "object.__new__"),some (.bool true)])),
(197,(kT [(.int (-1) 478),(kS "" 479)] 0)),
(203,(kC [(kS "__init__" 480),(kS "GateloomError.__init__" 481),(kS "/claim/cut.py" 482),(kI 115),(kI 4),(kI 0),(kI 0),(kI 3),(.ref 198),(.bool true),(kI 181),(.ref 199),.none,(.ref 200),(.ref 201),(.ref 202),(kI 487),(kI 115),(kS "/claim/cut.py" 488)])),
(206,(kD [kE P "__module__" 472 (kS "gateloom.errors" 463),kE P "__firstlineno__" 476 (.int 113 475),kE P "__init__" 489 (.ref 204),kE P "__static_attributes__" 493 (.ref 205),kE P "__weakref__" 495 (.ref 208),kE P "__doc__" 496 .none] 3)),
(207,(kK { name:=(Str.ofString "GateloomError"),bases:=[(.type "Exception")],mro:=[(.ref 207),(.type "Exception"),(.type "BaseException"),(.type "object")],ns:=206,qualname:=(Str.ofString "GateloomError"),hasDict:=true,slotNames:=[],subclasses:=[(.ref 220),(.ref 232)],abstract:=false,collection:=none,hasDel:=false } [some (.ref 190),none,some (kS "GateloomError" 465),some (kS "GateloomError" 473),some (.builtin "Exception.__new__"),some (.bool true)])),
(219,(kD [kE P "__module__" 508 (kS "gateloom.errors" 463),kE P "__firstlineno__" 512 (.int 119 511),kE P "__static_attributes__" 513 (.ref 218),kE P "__doc__" 514 .none] 2)),
(220,(kK { name:=(Str.ofString "DesignError"),bases:=[(.ref 207)],mro:=[(.ref 220),(.ref 207),(.type "Exception"),(.type "BaseException"),(.type "object")],ns:=219,qualname:=(Str.ofString "DesignError"),hasDict:=true,slotNames:=[],subclasses:=[],abstract:=false,collection:=none,hasDel:=false } [some (.ref 211),none,some (kS "DesignError" 501),some (kS "DesignError" 509),some (.builtin "Exception.__new__"),some (.bool true)])),
(240,(kC [(kS "mask" 535),(kS "mask" 536),(kS "/claim/cut.py" 537),(kI 124),(kI 1),(kI 0),(kI 0),(kI 3),(.ref 235),(.bool true),(kI 181),(.ref 236),.none,(.ref 237),(.ref 238),(.ref 239),(kI 539),(kI 124),(kS "/claim/cut.py" 540)])),
(242,(kT [(.int 0 542)] 0)),
(248,(kC [(kS "vec" 543),(kS "vec" 544),(kS "/claim/cut.py" 545),(kI 126),(kI 3),(kI 0),(kI 0),(kI 3),(.ref 243),(.bool true),(kI 181),(.ref 244),.none,(.ref 245),(.ref 246),(.ref 247),(kI 550),(kI 126),(kS "/claim/cut.py" 551)])),
(269,(kC [(kS "all_z" 568),(kS "all_z" 569),(kS "/claim/cut.py" 570),(kI 134),(kI 1),(kI 0),(kI 0),(kI 3),(.ref 264),(.bool true),(kI 181),(.ref 265),.none,(.ref 266),(.ref 267),(.ref 268),(kI 572),(kI 134),(kS "/claim/cut.py" 573)])),
(297,(kC [(kS "code" 601),(kS "code" 602),(kS "/claim/cut.py" 603),(kI 147),(kI 2),(kI 0),(kI 0),(kI 3),(.ref 292),(.bool true),(kI 181),(.ref 293),.none,(.ref 294),(.ref 295),(.ref 296),(kI 606),(kI 147),(kS "/claim/cut.py" 607)])),
(304,(kC [(kS "slice_vec" 609),(kS "slice_vec" 610),(kS "/claim/cut.py" 611),(kI 149),(kI 3),(kI 0),(kI 0),(kI 3),(.ref 299),(.bool true),(kI 181),(.ref 300),.none,(.ref 301),(.ref 302),(.ref 303),(kI 622),(kI 149),(kS "/claim/cut.py" 623)])),
(311,(kC [(kS "put_slice" 625),(kS "put_slice" 626),(kS "/claim/cut.py" 627),(kI 160),(kI 3),(kI 0),(kI 0),(kI 3),(.ref 306),(.bool true),(kI 181),(.ref 307),.none,(.ref 308),(.ref 309),(.ref 310),(kI 638),(kI 160),(kS "/claim/cut.py" 639)])),
(325,(kC [(kS "extend" 652),(kS "extend" 653),(kS "/claim/cut.py" 654),(kI 180),(kI 3),(kI 0),(kI 0),(kI 3),(.ref 320),(.bool true),(kI 181),(.ref 321),.none,(.ref 322),(.ref 323),(.ref 324),(kI 662),(kI 180),(kS "/claim/cut.py" 663)])),
(353,(kC [(kS "__init__" 693),(kS "Store.__init__" 694),(kS "/claim/cut.py" 695),(kI 201),(kI 2),(kI 0),(kI 0),(kI 3),(.ref 348),(.bool true),(kI 181),(.ref 349),.none,(.ref 350),(.ref 351),(.ref 352),(kI 698),(kI 201),(kS "/claim/cut.py" 699)])),
(360,(kC [(kS "get" 701),(kS "Store.get" 702),(kS "/claim/cut.py" 703),(kI 207),(kI 2),(kI 0),(kI 0),(kI 3),(.ref 355),(.bool true),(kI 181),(.ref 356),.none,(.ref 357),(.ref 358),(.ref 359),(kI 708),(kI 207),(kS "/claim/cut.py" 709)])),
(374,(kC [(kS "set_bits" 722),(kS "Store.set_bits" 723),(kS "/claim/cut.py" 724),(kI 224),(kI 5),(kI 0),(kI 0),(kI 3),(.ref 369),(.bool true),(kI 181),(.ref 370),.none,(.ref 371),(.ref 372),(.ref 373),(kI 732),(kI 224),(kS "/claim/cut.py" 733)])),
(377,(kD [kE P "__module__" 688 (kS "gateloom.store" 679),kE P "__firstlineno__" 692 (.int 199 691),kE P "__init__" 700 (.ref 354),kE P "get" 710 (.ref 361),kE P "word" 721 (.ref 368),kE P "set_bits" 734 (.ref 375),kE P "__static_attributes__" 739 (.ref 376),kE P "__dict__" 741 (.ref 379),kE P "__weakref__" 743 (.ref 380),kE P "__doc__" 744 .none] 4)),
(378,(kK { name:=(Str.ofString "Store"),bases:=[(.type "object")],mro:=[(.ref 378),(.type "object")],ns:=377,qualname:=(Str.ofString "Store"),hasDict:=true,slotNames:=[],subclasses:=[],abstract:=false,collection:=none,hasDel:=false } [none,none,some (kS "Store" 681),some (kS "Store" 689),some (.builtin "object.__new__"),some (.bool true)])),
(390,(kT [(.int 0 759)] 0)),
(396,(kC [(kS "__init__" 760),(kS "Context.__init__" 761),(kS "/claim/cut.py" 762),(kI 244),(kI 4),(kI 0),(kI 0),(kI 3),(.ref 391),(.bool true),(kI 181),(.ref 392),.none,(.ref 393),(.ref 394),(.ref 395),(kI 767),(kI 244),(kS "/claim/cut.py" 768)])),
(420,(kD [kE P "__module__" 754 (kS "gateloom.store" 679),kE P "__firstlineno__" 758 (.int 242 757),kE P "__init__" 769 (.ref 397),kE P "call" 778 (.ref 404),kE P "next_random" 786 (.ref 411),kE P "time_vec" 794 (.ref 418),kE P "__static_attributes__" 798 (.ref 419),kE P "__dict__" 800 (.ref 422),kE P "__weakref__" 802 (.ref 423),kE P "__doc__" 803 .none] 4)),
(421,(kK { name:=(Str.ofString "Context"),bases:=[(.type "object")],mro:=[(.ref 421),(.type "object")],ns:=420,qualname:=(Str.ofString "Context"),hasDict:=true,slotNames:=[],subclasses:=[(.ref 845)],abstract:=false,collection:=none,hasDel:=false } [none,none,some (kS "Context" 747),some (kS "Context" 755),some (.builtin "object.__new__"),some (.bool true)])),
(772,(kC [(kS "evaluate" 1281),(kS "evaluate" 1282),(kS "/claim/cut.py" 1283),(kI 571),(kI 2),(kI 0),(kI 0),(kI 3),(.ref 769),(.bool true),(kI 181),(.ref 770),.none,.none,.none,(.ref 771),(kI 1284),(kI 571),(kS "/claim/cut.py" 1285)])),
(779,(kC [(kS "locate" 1287),(kS "locate" 1288),(kS "/claim/cut.py" 1289),(kI 602),(kI 2),(kI 0),(kI 0),(kI 3),(.ref 774),(.bool true),(kI 181),(.ref 775),.none,(.ref 776),(.ref 777),(.ref 778),(kI 1293),(kI 602),(kS "/claim/cut.py" 1294)])),
(786,(kC [(kS "holder_width" 1296),(kS "holder_width" 1297),(kS "/claim/cut.py" 1298),(kI 609),(kI 2),(kI 0),(kI 0),(kI 3),(.ref 781),(.bool true),(kI 181),(.ref 782),.none,(.ref 783),(.ref 784),(.ref 785),(kI 1301),(kI 609),(kS "/claim/cut.py" 1302)])),
(793,(kC [(kS "resolve_target" 1304),(kS "resolve_target" 1305),(kS "/claim/cut.py" 1306),(kI 613),(kI 2),(kI 0),(kI 0),(kI 3),(.ref 788),(.bool true),(kI 181),(.ref 789),.none,(.ref 790),(.ref 791),(.ref 792),(kI 1320),(kI 613),(kS "/claim/cut.py" 1321)])),
(800,(kC [(kS "store_rows" 1323),(kS "store_rows" 1324),(kS "/claim/cut.py" 1325),(kI 632),(kI 3),(kI 0),(kI 0),(kI 3),(.ref 795),(.bool true),(kI 181),(.ref 796),.none,(.ref 797),(.ref 798),(.ref 799),(kI 1337),(kI 632),(kS "/claim/cut.py" 1338)])),
(902,(kC [(kS "children" 1484),(kS "children" 1485),(kS "/claim/cut.py" 1486),(kI 762),(kI 1),(kI 0),(kI 0),(kI 3),(.ref 897),(.bool true),(kI 181),(.ref 898),.none,(.ref 899),(.ref 900),(.ref 901),(kI 1489),(kI 762),(kS "/claim/cut.py" 1490)])),
(989,(kC [(kS "last_select" 1611),(kS "last_select" 1612),(kS "/claim/cut.py" 1613),(kI 901),(kI 1),(kI 0),(kI 0),(kI 3),(.ref 984),(.bool true),(kI 181),(.ref 985),.none,(.ref 986),(.ref 987),(.ref 988),(kI 1617),(kI 901),(kS "/claim/cut.py" 1618)])),
(996,(kC [(kS "is_memory" 1620),(kS "is_memory" 1621),(kS "/claim/cut.py" 1622),(kI 906),(kI 2),(kI 0),(kI 0),(kI 3),(.ref 991),(.bool true),(kI 181),(.ref 992),.none,(.ref 993),(.ref 994),(.ref 995),(kI 1625),(kI 906),(kS "/claim/cut.py" 1626)])),
(1003,(kC [(kS "shape" 1628),(kS "shape" 1629),(kS "/claim/cut.py" 1630),(kI 908),(kI 3),(kI 0),(kI 0),(kI 3),(.ref 998),(.bool true),(kI 181),(.ref 999),.none,(.ref 1000),(.ref 1001),(.ref 1002),(kI 1635),(kI 908),(kS "/claim/cut.py" 1636)])),
(1010,(kC [(kS "read_entry" 1638),(kS "read_entry" 1639),(kS "/claim/cut.py" 1640),(kI 921),(kI 3),(kI 0),(kI 0),(kI 3),(.ref 1005),(.bool true),(kI 181),(.ref 1006),.none,(.ref 1007),(.ref 1008),(.ref 1009),(kI 1645),(kI 921),(kS "/claim/cut.py" 1646)])),
(1017,(kC [(kS "folds" 1648),(kS "folds" 1649),(kS "/claim/cut.py" 1650),(kI 932),(kI 1),(kI 0),(kI 0),(kI 3),(.ref 1012),(.bool true),(kI 181),(.ref 1013),.none,(.ref 1014),(.ref 1015),(.ref 1016),(kI 1652),(kI 932),(kS "/claim/cut.py" 1653)])),
(1024,(kC [(kS "folded" 1655),(kS "folded" 1656),(kS "/claim/cut.py" 1657),(kI 936),(kI 1),(kI 0),(kI 0),(kI 3),(.ref 1019),(.bool true),(kI 181),(.ref 1020),.none,(.ref 1021),(.ref 1022),(.ref 1023),(kI 1660),(kI 936),(kS "/claim/cut.py" 1661)])),
(1073,(kC [(kS "widen" 1710),(kS "widen" 1711),(kS "/claim/cut.py" 1712),(kI 964),(kI 3),(kI 0),(kI 0),(kI 3),(.ref 1068),(.bool true),(kI 181),(.ref 1069),.none,(.ref 1070),(.ref 1071),(.ref 1072),(kI 1716),(kI 964),(kS "/claim/cut.py" 1717)])),
(1101,(kC [(kS "entry_of" 1756),(kS "entry_of" 1757),(kS "/claim/cut.py" 1758),(kI 997),(kI 2),(kI 0),(kI 0),(kI 3),(.ref 1096),(.bool true),(kI 181),(.ref 1097),.none,(.ref 1098),(.ref 1099),(.ref 1100),(kI 1762),(kI 997),(kS "/claim/cut.py" 1763)])),
(1108,(kC [(kS "base_entry" 1765),(kS "base_entry" 1766),(kS "/claim/cut.py" 1767),(kI 1004),(kI 2),(kI 0),(kI 0),(kI 3),(.ref 1103),(.bool true),(kI 181),(.ref 1104),.none,(.ref 1105),(.ref 1106),(.ref 1107),(kI 1772),(kI 1004),(kS "/claim/cut.py" 1773)])),
(1129,(kC [(kS "named_type" 1801),(kS "named_type" 1802),(kS "/claim/cut.py" 1803),(kI 1042),(kI 2),(kI 0),(kI 0),(kI 3),(.ref 1124),(.bool true),(kI 181),(.ref 1125),.none,(.ref 1126),(.ref 1127),(.ref 1128),(kI 1808),(kI 1042),(kS "/claim/cut.py" 1809)])),
(1136,(kC [(kS "named_value" 1811),(kS "named_value" 1812),(kS "/claim/cut.py" 1813),(kI 1055),(kI 2),(kI 0),(kI 0),(kI 3),(.ref 1131),(.bool true),(kI 181),(.ref 1132),.none,(.ref 1133),(.ref 1134),(.ref 1135),(kI 1821),(kI 1055),(kS "/claim/cut.py" 1822)])),
(1206,(kC [(kS "expr_type" 1919),(kS "expr_type" 1920),(kS "/claim/cut.py" 1921),(kI 1155),(kI 2),(kI 0),(kI 0),(kI 3),(.ref 1201),(.bool true),(kI 181),(.ref 1202),.none,(.ref 1203),(.ref 1204),(.ref 1205),(kI 1926),(kI 1155),(kS "/claim/cut.py" 1927)])),
(1227,(kC [(kS "build" 1956),(kS "build" 1957),(kS "/claim/cut.py" 1958),(kI 1209),(kI 4),(kI 0),(kI 0),(kI 3),(.ref 1222),(.bool true),(kI 181),(.ref 1223),.none,(.ref 1224),(.ref 1225),(.ref 1226),(kI 1967),(kI 1209),(kS "/claim/cut.py" 1968)])),
(1234,(kC [(kS "self_determined" 1970),(kS "self_determined" 1971),(kS "/claim/cut.py" 1972),(kI 1232),(kI 2),(kI 0),(kI 0),(kI 3),(.ref 1229),(.bool true),(kI 181),(.ref 1230),.none,(.ref 1231),(.ref 1232),(.ref 1233),(kI 1977),(kI 1232),(kS "/claim/cut.py" 1978)])),
(1241,(kC [(kS "sized" 1980),(kS "sized" 1981),(kS "/claim/cut.py" 1982),(kI 1235),(kI 3),(kI 0),(kI 0),(kI 3),(.ref 1236),(.bool true),(kI 181),(.ref 1237),.none,(.ref 1238),(.ref 1239),(.ref 1240),(kI 1988),(kI 1235),(kS "/claim/cut.py" 1989)])),
(1269,(kC [(kS "flat_parts" 2024),(kS "flat_parts" 2025),(kS "/claim/cut.py" 2026),(kI 1255),(kI 1),(kI 0),(kI 0),(kI 3),(.ref 1264),(.bool true),(kI 181),(.ref 1265),.none,(.ref 1266),(.ref 1267),(.ref 1268),(kI 2031),(kI 1255),(kS "/claim/cut.py" 2032)])),
(1276,(kC [(kS "check_entry" 2034),(kS "check_entry" 2035),(kS "/claim/cut.py" 2036),(kI 1265),(kI 4),(kI 0),(kI 0),(kI 3),(.ref 1271),(.bool true),(kI 181),(.ref 1272),.none,(.ref 1273),(.ref 1274),(.ref 1275),(kI 2042),(kI 1265),(kS "/claim/cut.py" 2043)])),
(1283,(kC [(kS "target_part" 2045),(kS "target_part" 2046),(kS "/claim/cut.py" 2047),(kI 1277),(kI 3),(kI 0),(kI 0),(kI 3),(.ref 1278),(.bool true),(kI 181),(.ref 1279),.none,(.ref 1280),(.ref 1281),(.ref 1282),(kI 2057),(kI 1277),(kS "/claim/cut.py" 2058)])),
(1290,(kC [(kS "target" 2060),(kS "target" 2061),(kS "/claim/cut.py" 2062),(kI 1300),(kI 3),(kI 0),(kI 0),(kI 3),(.ref 1285),(.bool true),(kI 181),(.ref 1286),.none,(.ref 1287),(.ref 1288),(.ref 1289),(kI 2070),(kI 1300),(kS "/claim/cut.py" 2071)])),
(1297,(kC [(kS "moved" 2073),(kS "moved" 2074),(kS "/claim/cut.py" 2075),(kI 1310),(kI 2),(kI 0),(kI 0),(kI 3),(.ref 1292),(.bool true),(kI 181),(.ref 1293),.none,(.ref 1294),(.ref 1295),(.ref 1296),(kI 2078),(kI 1310),(kS "/claim/cut.py" 2079)])),
(1304,(kC [(kS "slice_target" 2081),(kS "slice_target" 2082),(kS "/claim/cut.py" 2083),(kI 1314),(kI 3),(kI 0),(kI 0),(kI 3),(.ref 1299),(.bool true),(kI 181),(.ref 1300),.none,(.ref 1301),(.ref 1302),(.ref 1303),(kI 2097),(kI 1314),(kS "/claim/cut.py" 2098)])),
(1311,(kC [(kS "one_bit" 2100),(kS "one_bit" 2101),(kS "/claim/cut.py" 2102),(kI 1325),(kI 2),(kI 0),(kI 0),(kI 3),(.ref 1306),(.bool true),(kI 181),(.ref 1307),.none,(.ref 1308),(.ref 1309),(.ref 1310),(kI 2106),(kI 1325),(kS "/claim/cut.py" 2107)])),
(1318,(kC [(kS "one_bit_target" 2110),(kS "one_bit_target" 2111),(kS "/claim/cut.py" 2112),(kI 1331),(kI 2),(kI 0),(kI 0),(kI 3),(.ref 1313),(.bool true),(kI 181),(.ref 1314),.none,(.ref 1315),(.ref 1316),(.ref 1317),(kI 2116),(kI 1331),(kS "/claim/cut.py" 2117)])),
(1325,(kC [(kS "default_strength" 2121),(kS "default_strength" 2122),(kS "/claim/cut.py" 2123),(kI 1337),(kI 2),(kI 0),(kI 0),(kI 3),(.ref 1320),(.bool true),(kI 181),(.ref 1321),.none,(.ref 1322),(.ref 1323),(.ref 1324),(kI 2126),(kI 1337),(kS "/claim/cut.py" 2127)])),
(1330,(kC [(kS "delay_values" 2129),(kS "delay_values" 2130),(kS "/claim/cut.py" 2131),(kI 1343),(kI 2),(kI 0),(kI 0),(kI 3),(.ref 1327),(.bool true),(kI 181),(.ref 1328),.none,.none,.none,(.ref 1329),(kI 2132),(kI 1343),(kS "/claim/cut.py" 2133)])),
(1337,(kC [(kS "piece_place" 2135),(kS "piece_place" 2136),(kS "/claim/cut.py" 2137),(kI 1347),(kI 5),(kI 0),(kI 0),(kI 3),(.ref 1332),(.bool true),(kI 181),(.ref 1333),.none,(.ref 1334),(.ref 1335),(.ref 1336),(kI 2143),(kI 1347),(kS "/claim/cut.py" 2144)])),
(1344,(kC [(kS "value_bit" 2146),(kS "value_bit" 2147),(kS "/claim/cut.py" 2148),(kI 1353),(kI 4),(kI 0),(kI 0),(kI 3),(.ref 1339),(.bool true),(kI 181),(.ref 1340),.none,(.ref 1341),(.ref 1342),(.ref 1343),(kI 2155),(kI 1353),(kS "/claim/cut.py" 2156)])),
(1351,(kC [(kS "target_bit" 2158),(kS "target_bit" 2159),(kS "/claim/cut.py" 2160),(kI 1361),(kI 4),(kI 0),(kI 0),(kI 3),(.ref 1346),(.bool true),(kI 181),(.ref 1347),.none,(.ref 1348),(.ref 1349),(.ref 1350),(kI 2166),(kI 1361),(kS "/claim/cut.py" 2167)])),
(1358,(kC [(kS "output_count" 2169),(kS "output_count" 2170),(kS "/claim/cut.py" 2171),(kI 1366),(kI 3),(kI 0),(kI 0),(kI 3),(.ref 1353),(.bool true),(kI 181),(.ref 1354),.none,(.ref 1355),(.ref 1356),(.ref 1357),(kI 2177),(kI 1366),(kS "/claim/cut.py" 2178)])),
(1365,(kC [(kS "make_gate" 2180),(kS "make_gate" 2181),(kS "/claim/cut.py" 2182),(kI 1383),(kI 4),(kI 0),(kI 0),(kI 3),(.ref 1360),(.bool true),(kI 181),(.ref 1361),.none,(.ref 1362),(.ref 1363),(.ref 1364),(kI 2198),(kI 1383),(kS "/claim/cut.py" 2199)])),
(1372,(kC [(kS "matched_connections" 2201),(kS "matched_connections" 2202),(kS "/claim/cut.py" 2203),(kI 1395),(kI 3),(kI 0),(kI 0),(kI 3),(.ref 1367),(.bool true),(kI 181),(.ref 1368),.none,(.ref 1369),(.ref 1370),(.ref 1371),(kI 2212),(kI 1395),(kS "/claim/cut.py" 2213)])),
(1379,(kC [(kS "whole_target" 2215),(kS "whole_target" 2216),(kS "/claim/cut.py" 2217),(kI 1413),(kI 1),(kI 0),(kI 0),(kI 3),(.ref 1374),(.bool true),(kI 181),(.ref 1375),.none,(.ref 1376),(.ref 1377),(.ref 1378),(kI 2220),(kI 1413),(kS "/claim/cut.py" 2221)])),
(1386,(kC [(kS "input_assign" 2223),(kS "input_assign" 2224),(kS "/claim/cut.py" 2225),(kI 1416),(kI 6),(kI 0),(kI 0),(kI 3),(.ref 1381),(.bool true),(kI 181),(.ref 1382),.none,(.ref 1383),(.ref 1384),(.ref 1385),(kI 2235),(kI 1416),(kS "/claim/cut.py" 2236)])),
(1393,(kC [(kS "output_assign" 2238),(kS "output_assign" 2239),(kS "/claim/cut.py" 2240),(kI 1426),(kI 6),(kI 0),(kI 0),(kI 3),(.ref 1388),(.bool true),(kI 181),(.ref 1389),.none,(.ref 1390),(.ref 1391),(.ref 1392),(kI 2250),(kI 1426),(kS "/claim/cut.py" 2251)])),
(1407,(kC [(kS "__init__" 2267),(kS "Scope.__init__" 2268),(kS "/claim/cut.py" 2269),(kI 1438),(kI 5),(kI 0),(kI 0),(kI 3),(.ref 1402),(.bool true),(kI 181),(.ref 1403),.none,(.ref 1404),(.ref 1405),(.ref 1406),(kI 2275),(kI 1438),(kS "/claim/cut.py" 2276)])),
(1421,(kC [(kS "declare" 2289),(kS "Scope.declare" 2290),(kS "/claim/cut.py" 2291),(kI 1457),(kI 4),(kI 0),(kI 0),(kI 3),(.ref 1416),(.bool true),(kI 181),(.ref 1417),.none,(.ref 1418),(.ref 1419),(.ref 1420),(kI 2296),(kI 1457),(kS "/claim/cut.py" 2297)])),
(1435,(kC [(kS "lookup" 2306),(kS "Scope.lookup" 2307),(kS "/claim/cut.py" 2308),(kI 1465),(kI 2),(kI 0),(kI 0),(kI 3),(.ref 1430),(.bool true),(kI 181),(.ref 1431),.none,(.ref 1432),(.ref 1433),(.ref 1434),(kI 2312),(kI 1465),(kS "/claim/cut.py" 2313)])),
(1466,(kD [kE P "__module__" 2262 (kS "gateloom.scopes" 2253),kE P "__firstlineno__" 2266 (.int 1436 2265),kE P "__init__" 2277 (.ref 1408),kE P "child" 2288 (.ref 1415),kE P "declare" 2298 (.ref 1422),kE P "module_scope" 2305 (.ref 1429),kE P "lookup" 2314 (.ref 1436),kE P "lookup_routine" 2324 (.ref 1443),kE P "descend" 2335 (.ref 1450),kE P "resolve" 2346 (.ref 1457),kE P "answers_to" 2354 (.ref 1464),kE P "__static_attributes__" 2364 (.ref 1465),kE P "__dict__" 2366 (.ref 1468),kE P "__weakref__" 2368 (.ref 1469),kE P "__doc__" 2369 .none] 4)),
(1467,(kK { name:=(Str.ofString "Scope"),bases:=[(.type "object")],mro:=[(.ref 1467),(.type "object")],ns:=1466,qualname:=(Str.ofString "Scope"),hasDict:=true,slotNames:=[],subclasses:=[],abstract:=false,collection:=none,hasDel:=false } [none,none,some (kS "Scope" 2255),some (kS "Scope" 2263),some (.builtin "object.__new__"),some (.bool true)])),
(1477,(kC [(kS "_law_row" 2374),(kS "_law_row" 2375),(kS "/claim/cut.py" 2376),(kI 1512),(kI 1),(kI 0),(kI 0),(kI 3),(.ref 1472),(.bool true),(kI 181),(.ref 1473),.none,(.ref 1474),(.ref 1475),(.ref 1476),(kI 2382),(kI 1512),(kS "/claim/cut.py" 2383)])),
(1484,(kC [(kS "_law_next" 2385),(kS "_law_next" 2386),(kS "/claim/cut.py" 2387),(kI 1525),(kI 1),(kI 0),(kI 0),(kI 3),(.ref 1479),(.bool true),(kI 181),(.ref 1480),.none,(.ref 1481),(.ref 1482),(.ref 1483),(kI 2389),(kI 1525),(kS "/claim/cut.py" 2390)])),
(1491,(kC [(kS "_law_bits" 2392),(kS "_law_bits" 2393),(kS "/claim/cut.py" 2394),(kI 1527),(kI 2),(kI 0),(kI 0),(kI 3),(.ref 1486),(.bool true),(kI 181),(.ref 1487),.none,(.ref 1488),(.ref 1489),(.ref 1490),(kI 2401),(kI 1527),(kS "/claim/cut.py" 2402)])),
(1498,(kC [(kS "_law_made" 2404),(kS "_law_made" 2405),(kS "/claim/cut.py" 2406),(kI 1535),(kI 1),(kI 0),(kI 0),(kI 3),(.ref 1493),(.bool true),(kI 181),(.ref 1494),.none,(.ref 1495),(.ref 1496),(.ref 1497),(kI 2411),(kI 1535),(kS "/claim/cut.py" 2412)])),
(1505,(kC [(kS "_law_kept" 2414),(kS "_law_kept" 2415),(kS "/claim/cut.py" 2416),(kI 1542),(kI 1),(kI 0),(kI 0),(kI 3),(.ref 1500),(.bool true),(kI 181),(.ref 1501),.none,(.ref 1502),(.ref 1503),(.ref 1504),(kI 2419),(kI 1542),(kS "/claim/cut.py" 2420)])),
(1510,(kC [(kS "_law_matched" 2422),(kS "_law_matched" 2423),(kS "/claim/cut.py" 2424),(kI 1547),(kI 2),(kI 0),(kI 0),(kI 3),(.ref 1507),(.bool true),(kI 181),(.ref 1508),.none,.none,.none,(.ref 1509),(kI 2425),(kI 1547),(kS "/claim/cut.py" 2426)])),
(1517,(kC [(kS "_law_outputs" 2428),(kS "_law_outputs" 2429),(kS "/claim/cut.py" 2430),(kI 1561),(kI 2),(kI 0),(kI 0),(kI 3),(.ref 1512),(.bool true),(kI 181),(.ref 1513),.none,(.ref 1514),(.ref 1515),(.ref 1516),(kI 2433),(kI 1561),(kS "/claim/cut.py" 2434)])),
(1524,(kC [(kS "_law_stored" 2436),(kS "_law_stored" 2437),(kS "/claim/cut.py" 2438),(kI 1567),(kI 5),(kI 0),(kI 0),(kI 3),(.ref 1519),(.bool true),(kI 181),(.ref 1520),.none,(.ref 1521),(.ref 1522),(.ref 1523),(kI 2444),(kI 1567),(kS "/claim/cut.py" 2445)])),
(1529,(kC [(kS "law" 2447),(kS "law" 2448),(kS "/claim/cut.py" 2449),(kI 1571),(kI 1),(kI 0),(kI 0),(kI 3),(.ref 1526),(.bool true),(kI 181),(.ref 1527),.none,.none,.none,(.ref 1528),(kI 2450),(kI 1571),(kS "/claim/cut.py" 2451)]))]
noncomputable def KK (P:Params):Frag:=kfL.map (fun f=>(f.a,kFn f.q f.dfl f.pm f.cd f.d))++KKr P
noncomputable def Kas:List Addr:=[28,42,49,56,98,119,140,147,154,204,241,249,270,298,305,312,326,354,361,375,397,773,780,787,794,801,903,990,997,1004,1011,1018,1025,1074,1102,1109,1130,1137,1207,1228,1235,1242,1270,1277,1284,1291,1298,1305,1312,1319,1326,1331,1338,1345,1352,1359,1366,1373,1380,1387,1394,1408,1422,1436,1492,1499,1511,1518,1525,1478,1485,1506,1530,1,2,3,27,41,48,55,79,80,97,100,101,118,121,122,139,146,153,184,185,197,203,206,207,219,220,240,242,248,269,297,304,311,325,353,360,374,377,378,390,396,420,421,772,779,786,793,800,902,989,996,1003,1010,1017,1024,1073,1101,1108,1129,1136,1206,1227,1234,1241,1269,1276,1283,1290,1297,1304,1311,1318,1325,1330,1337,1344,1351,1358,1365,1372,1379,1386,1393,1407,1421,1435,1466,1467,1477,1484,1491,1498,1505,1510,1517,1524,1529]
noncomputable def lawA:Addr:=1530
noncomputable def lawC:Addr:=1529
noncomputable def lawP:Addr:=1527
end Mine
end
theorem Mine.Kas_eq (P:PySem.Params):Mine.Kas = (Mine.KK P).map (·.1):=by kernel_rfl
end
section
namespace Mine
open PySem PySem.W
theorem compX_fns (T:Tk) (f:Tr Fn) (ks:Kd) (e:PySem.Expr) (n:Nat):compX { T with tx:={ T.tx with fns:=f } } n ks e = compX T n ks e:=by
 induction n generalizing ks e with
 | zero=>rfl
 | succ n ih =>
  show stepX { T with tx:={ T.tx with fns:=f } } (compX { T with tx:={ T.tx with fns:=f } } n) ks e = stepX T (compX T n) ks e
  have:compX { T with tx:={ T.tx with fns:=f } } n = compX T n:=by funext ks e;exact ih ks e
  rewrite [this]
  rfl
theorem compS_fns (T:Tk) (f:Tr Fn) (ks:Kd) (n:Nat):compS { T with tx:={ T.tx with fns:=f } } ks n = compS T ks n:=by
 induction n with
 | zero=>rfl
 | succ n ih =>
  funext st
  show stepS { T with tx:={ T.tx with fns:=f } } (compX { T with tx:={ T.tx with fns:=f } } 40 ks) ks (compS { T with tx:={ T.tx with fns:=f } } ks n) st = stepS T (compX T 40 ks) ks (compS T ks n) st
  have:compX { T with tx:={ T.tx with fns:=f } } 40 ks = compX T 40 ks:=by funext e;exact compX_fns T f ks e 40
  rewrite [this,ih]
  rfl
theorem compS_TG (ks:Kd) (n:Nat):compS TG ks n = compS TT ks n:=compS_fns TT .e ks n
end Mine
end
section
set_option maxHeartbeats 1000000
namespace Mine
noncomputable section
noncomputable def nilB {α:Type} (l:List α):Bool:=match l with | []=>true | _ :: _=>false
noncomputable def noB {α:Type} (l:Option α):Bool:=match l with | none=>true | some _=>false
noncomputable def plainArgsB (a:Arguments):Bool:=andB (nilB a.posonlyargs) (andB (nilB a.kwonlyargs) (andB (noB a.vararg) (noB a.kwarg)))
noncomputable def nodupB (l:List Nat):Bool:=List.rec true (fun x r ih=>andB (notB (hasN r x)) ih) l
noncomputable def valIs (u:V) (v:Value):Bool:=match u with
 | .int i=>(match v with | .int j _=>beqI i j | _=>false)
 | .none=>(match v with | .none=>true | _=>false)
 | .str x=>(match v with | .str y _=>sameSt x y | _=>false)
 | .bool a=>(match v with | .bool b=>(match a with | true=>b | false=>notB b) | _=>false)
 | _=>false
noncomputable def valsIs (us:List V) (vs:List Value):Bool:=List.rec (motive:=fun _=>List Value→Bool) (fun vs=>match vs with | []=>true | _ :: _=>false)
 (fun u _ ih vs=>match vs with | []=>false | v :: vs=>andB (valIs u v) (ih vs)) us vs
noncomputable def seqAt (K:Frag) (t:Addr) (f:List Value→Bool):Bool:=match K.lookup t with
 | some o=>(match o.data with | .seq ds _=>f ds.toList | _=>false)
 | none=>false
noncomputable def dflChk (K:Frag) (d:Value) (us:List V):Bool:=match d with
 | .none=>nilB us
 | .ref t=>seqAt K t (valsIs us)
 | _=>false
noncomputable def codeChk (K:Frag) (cd:Value) (q:String):Bool:=match cd with
 | .ref c=>(match K.lookup c with
  | some o=>(match o.data with | .fields vs=>(match vs[1]? with | some v=>(match v with | .str x _=>sameSt x (Str.ofString q) | _=>false) | none=>false) | _=>false)
  | none=>false)
 | _=>false
noncomputable def isLC (k:Option NameKind) (cells:List (Str×Addr)) (x:Str):Bool:=match k with
 | some k=>(match k with | .local=>true | .cell=>(match cells.lookup x with | some _=>true | none=>false) | _=>false)
 | none=>false
noncomputable def isCK (k:Option NameKind):Bool:=match k with | some k=>(match k with | .cell=>true | _=>false) | none=>false
noncomputable def parChk (sc:Scope) (l:List Arg):Bool:=List.rec true (fun a _ ih=>andB (isLC (sc.names.lookup a.arg) (cellsFrom 0 sc.names []) a.arg) ih) l
noncomputable def cellChk (sc:Scope) (l:List (Str×NameKind)):Bool:=List.rec true (fun p _ ih=>andB (match p.2 with | .cell=>isCK (sc.names.lookup p.1) | _=>true) ih) l
noncomputable def kfChk (K:Frag) (f:Kf):Bool:=match f.d with
 | some st=>(match st with
  | .FunctionDef _ args _ _ _ _ sc _ _ _=>andB (okF sc) (andB (codeChk K f.cd f.q) (andB (plainArgsB args) (andB (nodupB (args.args.map fun a=>key a.arg)) (andB (dflChk K f.dfl (dfl args.defaults)) (andB (Nat.ble (len (dfl args.defaults)) (len args.args))
    (andB (nodupB ((cellsFrom 0 sc.names []).map fun p=>key p.1)) (andB (parChk sc args.args) (cellChk sc sc.names))))))))
  | _=>false)
 | none=>false
noncomputable def fnT (d:Option PySem.Stmt):Fn:=match d with
 | some (.FunctionDef _ args body _ _ _ sc _ _ _)=>⟨args.args.map fun a=>key a.arg,dfl args.defaults,kindsOf sc,⟨css (compS TT (kindsOf sc) 40) body⟩⟩
 | _=>⟨[],[],[],noS⟩
end
theorem fnD_eq (d:Option PySem.Stmt):fnD d = fnT d:=by
 have:compS TG = compS TT:=by funext ks n;exact compS_TG ks n
 unfold fnD fnT
 rewrite [this] <;> rfl
theorem nodupB_ok:∀ {l:List Str},nodupB (l.map key) = true→l.Nodup:=by
 intro lq
 induction lq with
 | nil =>
  intro _
  exact List.nodup_nil
 | cons x l ih =>
  intro h
  refine x0a2 (andB_ok (show andB (notB (hasN (l.map key) (key x))) (nodupB (l.map key)) = true from h) :) fun h1 h2=>?_
  refine List.nodup_cons.mpr ⟨fun hm=>?_,ih h2⟩
  have:∀ (l:List Str),x∈l→hasN (l.map key) (key x) = true:=by
   intro l
   induction l with
   | nil=>intro h;cases h
   | cons y l ih =>
    intro h
    show (Bool.rec (hasN (l.map key) (key x)) true (Nat.beq (key y) (key x)):Bool) = true
    rcases List.mem_cons.mp h with rfl | h
    ·rw [Nat.beq_refl]
    ·rw [ih h];cases Nat.beq (key y) (key x) <;> rfl
  rw [this l hm] at h1
  exact ft' h1
set_option tactic.hygienic true in
theorem valIs_ok {u:V} {v:Value} (h:valIs u v = true) (ρ:Va) (hp:Heap):IsV ρ hp u v:=by
 induction u using V.casesOn <;> induction v using Value.casesOn <;> first | exact .none | (exact ft' h;done) | skip
 ·rename_i a b;induction a using Bool.casesOn <;> induction b using Bool.casesOn <;> first | exact .bool | exact ft' h
 ·rename_i a b t
  have:=(beqI_eq _ _).symm.trans h
  rw [of_decide_eq_true this];exact .int
 ·rename_i a b t;rw [show a = b from key_inj (Nat.eq_of_beq_eq_true h)];exact .str
theorem valsIs_ok (ρ:Va) (hp:Heap):∀ {us:List V} {vs:List Value},valsIs us vs = true→IsVs ρ hp us vs
 | [],[],_=>.nil
 | [],_ :: _,h=>(Bool.false_ne_true h).elim
 | _ :: _,[],h=>(Bool.false_ne_true h).elim
 | u :: us,v :: vs,h=>x0a2 (andB_ok (show andB (valIs u v) (valsIs us vs) = true from h)) fun a b=>.cons (valIs_ok a ρ hp) (valsIs_ok ρ hp b)
theorem parChk_ok {sc:Scope}:∀ {l:List Arg},parChk sc l = true→∀ x∈l.map (·.arg),sc.names.lookup x = some .local∨(sc.names.lookup x = some .cell∧((cellsFrom 0 sc.names []).lookup x).isSome = true):=by
 intro lq
 induction lq with
 | nil =>
  intro _ x hx
  cases hx
 | cons a l ih =>
  intro h x hx
  refine x0a2 (andB_ok (show andB (isLC (sc.names.lookup a.arg) (cellsFrom 0 sc.names []) a.arg) (parChk sc l) = true from h) :) fun h1 h2=>?_
  rcases List.mem_cons.mp hx with rfl | hx
  ·unfold isLC at h1
   induction e:sc.names.lookup a.arg using Option.casesOn with
   | none=>rw [e] at h1;exact ft' h1
   | some k =>
    rw [e] at h1
    induction k using NameKind.casesOn with
    | «local»=>exact .inl rfl
    | cell=>
     induction q:(cellsFrom 0 sc.names []).lookup a.arg using Option.casesOn with
     | none=>rw [q] at h1;exact ft' h1
     | some w=>exact .inr ⟨rfl,rfl⟩
    | _=>exact ft' h1
  ·exact ih h2 x hx
theorem cellChk_ok {sc:Scope}:∀ {l:List (Str×NameKind)},cellChk sc l = true→∀ p∈l,p.2 = .cell→sc.names.lookup p.1 = some .cell:=by
 intro lq
 induction lq with
 | nil =>
  intro _ p hp _
  cases hp
 | cons q l ih =>
  intro h p hp e
  refine x0a2 (andB_ok (show andB (match q.2 with | .cell=>isCK (sc.names.lookup q.1) | _=>true) (cellChk sc l) = true from h) :) fun h1 h2=>?_
  rcases List.mem_cons.mp hp with rfl | hp
  ·rw [e] at h1
   replace h1:isCK (sc.names.lookup p.1) = true:=h1
   induction q:sc.names.lookup p.1 using Option.casesOn with
   | none=>rw [q] at h1;exact ft' h1
   | some k=>rw [q] at h1;induction k using NameKind.casesOn <;> first | rfl | exact ft' h1
  ·exact ih h2 p hp e
theorem codeChk_ok {K:Frag} {v:Value} {q:String} (h:codeChk K v q = true):∃ c o vs t,v = .ref c∧K.lookup c = some o∧o.data = .fields vs∧vs[1]? = some (.str (Str.ofString q) t):=by
 unfold codeChk at h
 induction v using Value.casesOn with
 | ref c =>
  dsimp only at h
  induction eo:K.lookup c using Option.casesOn with
  | none=>rw [eo] at h;exact ft' h
  | some o =>
   rw [eo] at h
   dsimp only at h
   cases ev:o.data with
   | fields vs =>
    rw [ev] at h
    dsimp only at h
    induction e1:vs[1]? using Option.casesOn with
    | none=>rw [e1] at h;exact ft' h
    | some v =>
     rw [e1] at h
     induction v using Value.casesOn with
     | str x t =>
      have:=key_inj (Nat.eq_of_beq_eq_true h)
      subst this
      exact ⟨c,o,vs,t,rfl,eo,ev,e1⟩
     | _=>exact ft' h
   | _=>rw [ev] at h;exact ft' h
 | _=>exact ft' h
theorem dflChk_ok {K:Frag} {v:Value} {us:List V} (h:dflChk K v us = true):(v = .none∧us = [])∨∃ t o ds n,v = .ref t∧K.lookup t = some o∧o.data = .seq ds n∧∀ ρ h,IsVs ρ h us ds.toList:=by
 unfold dflChk at h
 induction v using Value.casesOn with
 | none =>
  refine .inl ⟨rfl,?_⟩
  induction us using List.casesOn with
  | nil=>rfl
  | cons _ _=>exact ft' h
 | ref t =>
  dsimp only at h
  unfold seqAt at h
  induction eo:K.lookup t using Option.casesOn with
  | none=>rw [eo] at h;exact ft' h
  | some o =>
   rw [eo] at h
   dsimp only at h
   cases es:o.data with
   | seq ds n=>rw [es] at h;exact .inr ⟨t,o,ds,n,rfl,eo,es,fun ρ hp=>valsIs_ok ρ hp h⟩
   | _=>rw [es] at h;exact ft' h
 | _=>exact ft' h
theorem fn_of {C:SC} {f:Kf} (hk:C.K.lookup f.a = some (kFn f.q f.dfl f.pm f.cd f.d)) (h:kfChk C.K f = true):∃ name args body x1 x2 x3 sc x4 x5 x6 fd,f.d = some (.FunctionDef name args body x1 x2 x3 sc x4 x5 x6) ∧
  FnOK C TT (fnT f.d) f.a (kFn f.q f.dfl f.pm f.cd f.d) fd body∧fd.scope = sc∧fd.qualname = Str.ofString f.q∧fd.code = f.cd:=by
 unfold kfChk at h
 induction ed:f.d using Option.casesOn with
 | none=>rw [ed] at h;exact ft' h
 | some st =>
  rw [ed] at h
  cases st with
  | FunctionDef name args body x1 x2 x3 sc x4 x5 x6 =>
   refine x0a2 (andB_ok h :) fun h1 h=>?_
   refine x0a2 (andB_ok h :) fun h2 h=>?_
   refine x0a2 (andB_ok h :) fun h3 h=>?_
   refine x0a2 (andB_ok h :) fun h4 h=>?_
   refine x0a2 (andB_ok h :) fun h5 h=>?_
   refine x0a2 (andB_ok h :) fun h6 h=>?_
   refine x0a2 (andB_ok h :) fun h7 h=>?_
   refine x0a2 (andB_ok h :) fun h8 h9=>?_
   rw [ed] at hk
   refine ⟨name,args,body,x1,x2,x3,sc,x4,x5,x6,_,rfl,⟨hk,rfl,rfl,rfl,rfl,rfl,h1,?_,?_,?_,?_,?_,?_,rfl,?_,parChk_ok h8,cellChk_ok h9,rfl⟩,rfl,rfl,rfl⟩
   ·show ∃ c o vs t,f.cd = .ref c∧C.K.lookup c = some o∧o.data = .fields vs∧vs[1]? = some (.str (Str.ofString f.q) t)
    exact codeChk_ok h2
   ·show PlainArgs args
    refine x0a2 (andB_ok h3 :) fun q1 h3=>?_
    refine x0a2 (andB_ok h3 :) fun q2 h3=>?_
    refine x0a2 (andB_ok h3 :) fun q3 q4=>?_
    have nil_ok:∀ {α:Type} {l:List α},nilB l = true→l = []:=fun {α l} h=>by induction l using List.casesOn <;> first | rfl | exact ft' h
    have no_ok:∀ {α:Type} {l:Option α},noB l = true→l = none:=fun {α l} h=>by induction l using Option.casesOn <;> first | rfl | exact ft' h
    exact ⟨nil_ok q1,nil_ok q2,no_ok q3,no_ok q4⟩
   ·show (args.args.map (·.arg)).Nodup
    refine nodupB_ok ?_
    rw [List.map_map];exact h4
   ·show (args.args.map fun a=>key a.arg) = (args.args.map (·.arg)).map key
    rw [List.map_map];rfl
   ·show (f.dfl = .none∧dfl args.defaults = [])∨∃ t o ds n,f.dfl = .ref t∧C.K.lookup t = some o∧o.data = .seq ds n∧∀ ρ h,IsVs ρ h (dfl args.defaults) ds.toList
    exact dflChk_ok h5
   ·show (dfl args.defaults).length≤(args.args.map fun a=>key a.arg).length
    have:=Nat.le_of_ble_eq_true h6
    rw [len_eq,len_eq] at this
    rw [List.length_map];exact this
   ·show ((cellsFrom 0 sc.names []).map (·.1)).Nodup
    refine nodupB_ok ?_
    rw [List.map_map];exact h7
  | _=>exact ft' h
end Mine
end
section
set_option maxHeartbeats 1000000
namespace Mine
noncomputable section
noncomputable def Tr.toL {α:Type} (t:Tr α):List (Nat×α):=Tr.rec [] (fun _ k v _ il ir=>il++(k,v) :: ir) t
noncomputable def isSN (o:Option (Option Value)):Bool:=match o with | some o=>(match o with | none=>true | some _=>false) | none=>false
noncomputable def isSR (o:Option (Option Value)) (f:Nat):Bool:=match o with | some o=>(match o with | some v=>(match v with | .ref g=>Nat.beq g f | _=>false) | none=>false) | none=>false
noncomputable def allB {α:Type} (f:α→Bool) (l:List α):Bool:=List.rec true (fun x _ ih=>andB (f x) ih) l
noncomputable def glB (K:Frag) (x:Str) (u:V):Bool:=andB (notB (x == ("__debug__":Str))) (andB (notB (x == ("__name__":Str))) (match u with
 | .top a=>isSR (nsIn K mainGlobals x) a
 | .int i=>(match nsIn K mainGlobals x with | some o=>(match o with | some v=>valIs (.int i) v | none=>false) | none=>false)
 | .bi b=>andB (isSN (nsIn K mainGlobals x)) (match bootBuiltins x with | some v=>(match v with | .builtin i=>i == b.id | _=>false) | none=>false)
 | .ty b=>andB (isSN (nsIn K mainGlobals x)) (match bootBuiltins x with | some v=>(match v with | .type i=>i == b.id | _=>false) | none=>false)
 | _=>false))
end
theorem Tr.get_mem {α:Type}:∀ {t:Tr α} {x:Nat} {v:α},t.get x = some v→(x,v)∈t.toL
 | .e,_,_,h=>by exact nS' h
 | .n l k u r,x,v,h=>by
  have h':(Bool.rec (Bool.rec (l.get x) (r.get x) (Nat.ble k x)) (some u) (Nat.beq k x):Option α) = some v:=h
  show (x,v)∈l.toL++(k,u) :: r.toL
  induction e:Nat.beq k x using Bool.casesOn with
  | true =>
   rw [e] at h'
   (refine jS h' fun j=>?_;clear h';subst j)
   rw [Nat.eq_of_beq_eq_true e]
   exact List.mem_append_right _ (.head _)
  | false =>
   rw [e] at h'
   induction e2:Nat.ble k x using Bool.casesOn with
   | true=>rw [e2] at h';exact List.mem_append_right _ (.tail _ (Tr.get_mem h'))
   | false=>rw [e2] at h';exact List.mem_append_left _ (Tr.get_mem h')
theorem allB_ok {α:Type} {f:α→Bool}:∀ {l:List α},allB f l = true→∀ x∈l,f x = true:=by
 intro lq
 induction lq with
 | nil =>
  intro _ x h
  cases h
 | cons y l ih =>
  intro h x hx
  refine x0a2 (andB_ok (show andB (f y) (allB f l) = true from h) :) fun a b=>?_
  rcases List.mem_cons.mp hx with rfl | hx
  ·exact a
  ·exact ih b x hx
theorem isSN_ok {o:Option (Option Value)} (h:isSN o = true):o = some none:=by
 induction o using Option.casesOn with
 | none=>exact ft' h
 | some o=>induction o using Option.casesOn <;> first | rfl | exact ft' h
theorem isSR_ok {o:Option (Option Value)} {f:Nat} (h:isSR o f = true):o = some (some (.ref f)):=by
 induction o using Option.casesOn with
 | none=>exact ft' h
 | some o =>
  induction o using Option.casesOn with
  | none=>exact ft' h
  | some v =>
   induction v using Value.casesOn <;> first | (rw [Nat.eq_of_beq_eq_true h];done) | exact ft' h
theorem hasN_ok {x:Str}:∀ {A:List Str},hasN (A.map key) (key x) = true→x∈A:=by
 intro lq
 induction lq with
 | nil =>
  intro h
  exact ft' h
 | cons y A ih =>
  intro h
  have h':(Bool.rec (hasN (A.map key) (key x)) true (Nat.beq (key y) (key x)):Bool) = true:=h
  induction e:Nat.beq (key y) (key x) using Bool.casesOn with
  | true=>rw [key_inj (Nat.eq_of_beq_eq_true e)];exact .head _
  | false=>rw [e] at h';exact .tail _ (ih h')
set_option tactic.hygienic true in
theorem lkM_ok {x:Str} {f:Nat}:∀ {M:List (Str×Nat)},lk (M.map fun p=>(key p.1,p.2)) (key x) = some f→(x,f)∈M:=by
 intro lq
 induction lq with
 | nil =>
  intro h
  exact nS' h
 | cons hq M ih =>
  obtain ⟨y,g⟩:=hq
  intro h
  rw [List.map_cons,lk_cons] at h
  (revert h;refine ifR (fun _ h=>?_) fun _ h=>?_)
  ·rename_i q
   (refine jS h fun j=>?_;clear h;subst j)
   have e:y = x:=key_inj q
   subst e
   exact .head _
  ·exact .tail _ (ih h)
theorem cls_of {K:Frag} {c:Addr} {cl:Cl} (A:List Str) (M:List (Str×Nat)) (hA:cl.attrs = A.map key) (hM:cl.meths = M.map fun p=>(key p.1,p.2)) (dict:hasDictIn K c = true)
  (get:cl.exc = false→findIn K (.ref c) "__getattribute__" = some (some (.builtin "object.__getattribute__"))) (noget:cl.exc = false→findIn K (.ref c) "__getattr__" = some none)
  (set:findIn K (.ref c) "__setattr__" = some (some (.builtin "object.__setattr__"))) (refuse:∃ cd,clsIn K c = some cd∧cd.hasDict = true∧cd.mro.isEmpty = false∧cd.mro.contains (.type "object") = true∧∀ self,refuseLoop self "__setattr__" cd.mro = pure ())
  (plain:allB (fun x=>isSN (findIn K (.ref c) x)) A = true) (meth:allB (fun p=>andB (isSR (findIn K (.ref c) p.1) p.2) (andB (isFn K (.ref p.2)) (fnIn K p.2))) M = true):ClsOK K c cl where
 dict:=dict
 get:=get
 noget:=noget
 set:=set
 refuse:=refuse
 plain:=fun x h=>isSN_ok (allB_ok plain x (hasN_ok (hA▸h)))
 meth:=fun _ x f h=>by
  rw [hM] at h
  have:=allB_ok meth _ (lkM_ok h)
  refine x0a2 (andB_ok this :) fun a b=>?_
  refine x0a2 (andB_ok b :) fun b c=>?_
  exact ⟨isSR_ok a,b,c⟩
theorem ck80 (P:Params):ClsOK (KK P) 80 cl80:=cls_of [(Str.ofString "at"),(Str.ofString "first"),(Str.ofString "init"),(Str.ofString "key"),(Str.ofString "kind"),(Str.ofString "last"),(Str.ofString "lsb"),(Str.ofString "msb"),(Str.ofString "path"),(Str.ofString "scalar"),(Str.ofString "signed"),(Str.ofString "width")] [((Str.ofString "is_net"),49),((Str.ofString "is_memory"),56)] (by kernel_rfl) (by kernel_rfl) (by kernel_rfl) (fun _=>by kernel_rfl) (fun _=>by kernel_rfl) (by kernel_rfl) ⟨(clsIn (KK P) 80).getD default,by kernel_rfl,by kernel_rfl,by kernel_rfl,by kernel_rfl,fun _=>by kernel_rfl⟩ (by kernel_rfl) (by kernel_rfl)
theorem cs80 (P:Params):ClsStr (KK P) 80:=⟨by kernel_rfl,by kernel_rfl,by kernel_rfl,by kernel_rfl,by kernel_rfl,by kernel_rfl,by kernel_rfl⟩
theorem ck101 (P:Params):ClsOK (KK P) 101 cl101:=cls_of [(Str.ofString "at"),(Str.ofString "delay"),(Str.ofString "strength"),(Str.ofString "target"),(Str.ofString "value")] [] (by kernel_rfl) (by kernel_rfl) (by kernel_rfl) (fun _=>by kernel_rfl) (fun _=>by kernel_rfl) (by kernel_rfl) ⟨(clsIn (KK P) 101).getD default,by kernel_rfl,by kernel_rfl,by kernel_rfl,by kernel_rfl,fun _=>by kernel_rfl⟩ (by kernel_rfl) (by kernel_rfl)
theorem cs101 (P:Params):ClsStr (KK P) 101:=⟨by kernel_rfl,by kernel_rfl,by kernel_rfl,by kernel_rfl,by kernel_rfl,by kernel_rfl,by kernel_rfl⟩
theorem ck122 (P:Params):ClsOK (KK P) 122 cl122:=cls_of [(Str.ofString "at"),(Str.ofString "delay"),(Str.ofString "ins"),(Str.ofString "kind"),(Str.ofString "outs"),(Str.ofString "strength")] [] (by kernel_rfl) (by kernel_rfl) (by kernel_rfl) (fun _=>by kernel_rfl) (fun _=>by kernel_rfl) (by kernel_rfl) ⟨(clsIn (KK P) 122).getD default,by kernel_rfl,by kernel_rfl,by kernel_rfl,by kernel_rfl,fun _=>by kernel_rfl⟩ (by kernel_rfl) (by kernel_rfl)
theorem cs122 (P:Params):ClsStr (KK P) 122:=⟨by kernel_rfl,by kernel_rfl,by kernel_rfl,by kernel_rfl,by kernel_rfl,by kernel_rfl,by kernel_rfl⟩
theorem ck185 (P:Params):ClsOK (KK P) 185 cl185:=cls_of [(Str.ofString "assigns"),(Str.ofString "by_path"),(Str.ofString "gates"),(Str.ofString "maker"),(Str.ofString "ports"),(Str.ofString "processes"),(Str.ofString "routines"),(Str.ofString "scopes"),(Str.ofString "signals"),(Str.ofString "tops"),(Str.ofString "udps")] [((Str.ofString "add_signal"),147),((Str.ofString "add_scope"),154)] (by kernel_rfl) (by kernel_rfl) (by kernel_rfl) (fun _=>by kernel_rfl) (fun _=>by kernel_rfl) (by kernel_rfl) ⟨(clsIn (KK P) 185).getD default,by kernel_rfl,by kernel_rfl,by kernel_rfl,by kernel_rfl,fun _=>by kernel_rfl⟩ (by kernel_rfl) (by kernel_rfl)
theorem cs185 (P:Params):ClsStr (KK P) 185:=⟨by kernel_rfl,by kernel_rfl,by kernel_rfl,by kernel_rfl,by kernel_rfl,by kernel_rfl,by kernel_rfl⟩
theorem ck207 (P:Params):ClsOK (KK P) 207 cl207:=cls_of [(Str.ofString "at"),(Str.ofString "detail"),(Str.ofString "kind")] [] (by kernel_rfl) (by kernel_rfl) (by kernel_rfl) (fun q=>by exact tf' q) (fun q=>by exact tf' q) (by kernel_rfl) ⟨(clsIn (KK P) 207).getD default,by kernel_rfl,by kernel_rfl,by kernel_rfl,by kernel_rfl,fun _=>by kernel_rfl⟩ (by kernel_rfl) (by kernel_rfl)
theorem ck220 (P:Params):ClsOK (KK P) 220 cl220:=cls_of [(Str.ofString "at"),(Str.ofString "detail"),(Str.ofString "kind")] [] (by kernel_rfl) (by kernel_rfl) (by kernel_rfl) (fun q=>by exact tf' q) (fun q=>by exact tf' q) (by kernel_rfl) ⟨(clsIn (KK P) 220).getD default,by kernel_rfl,by kernel_rfl,by kernel_rfl,by kernel_rfl,fun _=>by kernel_rfl⟩ (by kernel_rfl) (by kernel_rfl)
theorem ck378 (P:Params):ClsOK (KK P) 378 cl378:=cls_of [(Str.ofString "memories"),(Str.ofString "random_seed"),(Str.ofString "signals"),(Str.ofString "values")] [((Str.ofString "get"),361),((Str.ofString "set_bits"),375)] (by kernel_rfl) (by kernel_rfl) (by kernel_rfl) (fun _=>by kernel_rfl) (fun _=>by kernel_rfl) (by kernel_rfl) ⟨(clsIn (KK P) 378).getD default,by kernel_rfl,by kernel_rfl,by kernel_rfl,by kernel_rfl,fun _=>by kernel_rfl⟩ (by kernel_rfl) (by kernel_rfl)
theorem cs378 (P:Params):ClsStr (KK P) 378:=⟨by kernel_rfl,by kernel_rfl,by kernel_rfl,by kernel_rfl,by kernel_rfl,by kernel_rfl,by kernel_rfl⟩
theorem ck421 (P:Params):ClsOK (KK P) 421 cl421:=cls_of [(Str.ofString "frame"),(Str.ofString "now"),(Str.ofString "store")] [] (by kernel_rfl) (by kernel_rfl) (by kernel_rfl) (fun _=>by kernel_rfl) (fun _=>by kernel_rfl) (by kernel_rfl) ⟨(clsIn (KK P) 421).getD default,by kernel_rfl,by kernel_rfl,by kernel_rfl,by kernel_rfl,fun _=>by kernel_rfl⟩ (by kernel_rfl) (by kernel_rfl)
theorem cs421 (P:Params):ClsStr (KK P) 421:=⟨by kernel_rfl,by kernel_rfl,by kernel_rfl,by kernel_rfl,by kernel_rfl,by kernel_rfl,by kernel_rfl⟩
theorem ck1467 (P:Params):ClsOK (KK P) 1467 cl1467:=cls_of [(Str.ofString "design"),(Str.ofString "entries"),(Str.ofString "kind"),(Str.ofString "module_name"),(Str.ofString "name"),(Str.ofString "nettype"),(Str.ofString "number"),(Str.ofString "parent"),(Str.ofString "path")] [((Str.ofString "declare"),1422),((Str.ofString "lookup"),1436)] (by kernel_rfl) (by kernel_rfl) (by kernel_rfl) (fun _=>by kernel_rfl) (fun _=>by kernel_rfl) (by kernel_rfl) ⟨(clsIn (KK P) 1467).getD default,by kernel_rfl,by kernel_rfl,by kernel_rfl,by kernel_rfl,fun _=>by kernel_rfl⟩ (by kernel_rfl) (by kernel_rfl)
theorem cs1467 (P:Params):ClsStr (KK P) 1467:=⟨by kernel_rfl,by kernel_rfl,by kernel_rfl,by kernel_rfl,by kernel_rfl,by kernel_rfl,by kernel_rfl⟩
theorem clsL:clsT.toL = [(80,cl80),(101,cl101),(122,cl122),(185,cl185),(207,cl207),(220,cl220),(378,cl378),(421,cl421),(1467,cl1467)]:=by kernel_rfl
theorem glL:globT.toL = [(key (Str.ofString "abs"),(.bi .abs)),(key (Str.ofString "vec"),(.top 249)),(key (Str.ofString "len"),(.bi .len)),(key (Str.ofString "law"),(.top 1530)),(key (Str.ofString "min"),(.bi .min)),(key (Str.ofString "max"),(.bi .max)),(key (Str.ofString "int"),(.ty .int)),(key (Str.ofString "str"),(.ty .str)),(key (Str.ofString "code"),(.top 298)),(key (Str.ofString "mask"),(.top 241)),(key (Str.ofString "list"),(.ty .list)),(key (Str.ofString "Scope"),(.top 1467)),(key (Str.ofString "Store"),(.top 378)),(key (Str.ofString "range"),(.ty .range)),(key (Str.ofString "build"),(.top 1228)),(key (Str.ofString "shape"),(.top 1004)),(key (Str.ofString "all_z"),(.top 270)),(key (Str.ofString "widen"),(.top 1074)),(key (Str.ofString "folds"),(.top 1018)),(key (Str.ofString "moved"),(.top 1298)),(key (Str.ofString "sized"),(.top 1242)),(key (Str.ofString "tuple"),(.ty .tuple)),(key (Str.ofString "Design"),(.top 185)),(key (Str.ofString "Signal"),(.top 80)),(key (Str.ofString "folded"),(.top 1025)),(key (Str.ofString "locate"),(.top 780)),(key (Str.ofString "target"),(.top 1291)),(key (Str.ofString "extend"),(.top 326)),(key (Str.ofString "GateDef"),(.top 122)),(key (Str.ofString "sorted"),(.bi .sorted)),(key (Str.ofString "MAX_WIDTH"),(.int 65536)),(key (Str.ofString "Context"),(.top 421)),(key (Str.ofString "children"),(.top 903)),(key (Str.ofString "evaluate"),(.top 773)),(key (Str.ofString "_law_row"),(.top 1478)),(key (Str.ofString "entry_of"),(.top 1102)),(key (Str.ofString "AssignDef"),(.top 101)),(key (Str.ofString "_law_made"),(.top 1499)),(key (Str.ofString "make_gate"),(.top 1366)),(key (Str.ofString "slice_vec"),(.top 305)),(key (Str.ofString "_law_bits"),(.top 1492)),(key (Str.ofString "_law_kept"),(.top 1506)),(key (Str.ofString "value_bit"),(.top 1345)),(key (Str.ofString "net_kinds"),(.top 28)),(key (Str.ofString "_law_next"),(.top 1485)),(key (Str.ofString "put_slice"),(.top 312)),(key (Str.ofString "is_memory"),(.top 997)),(key (Str.ofString "expr_type"),(.top 1207)),(key (Str.ofString "target_bit"),(.top 1352)),(key (Str.ofString "named_type"),(.top 1130)),(key (Str.ofString "base_entry"),(.top 1109)),(key (Str.ofString "read_entry"),(.top 1011)),(key (Str.ofString "flat_parts"),(.top 1270)),(key (Str.ofString "isinstance"),(.bi .isinstance)),(key (Str.ofString "store_rows"),(.top 801)),(key (Str.ofString "DesignError"),(.top 220)),(key (Str.ofString "piece_place"),(.top 1338)),(key (Str.ofString "named_value"),(.top 1137)),(key (Str.ofString "check_entry"),(.top 1277)),(key (Str.ofString "last_select"),(.top 990)),(key (Str.ofString "_law_stored"),(.top 1525)),(key (Str.ofString "target_part"),(.top 1284)),(key (Str.ofString "_law_matched"),(.top 1511)),(key (Str.ofString "slice_target"),(.top 1305)),(key (Str.ofString "holder_width"),(.top 787)),(key (Str.ofString "delay_values"),(.top 1331)),(key (Str.ofString "whole_target"),(.top 1380)),(key (Str.ofString "input_assign"),(.top 1387)),(key (Str.ofString "_law_outputs"),(.top 1518)),(key (Str.ofString "output_count"),(.top 1359)),(key (Str.ofString "output_assign"),(.top 1394)),(key (Str.ofString "one_bit_elablv"),(.top 1312)),(key (Str.ofString "one_bit_target"),(.top 1319)),(key (Str.ofString "resolve_target"),(.top 794)),(key (Str.ofString "self_determined"),(.top 1235)),(key (Str.ofString "default_strength"),(.top 1326)),(key (Str.ofString "matched_connections"),(.top 1373))]:=by kernel_rfl
noncomputable def glN:List (Str×V):=[((Str.ofString "abs"),(.bi .abs)),((Str.ofString "vec"),(.top 249)),((Str.ofString "len"),(.bi .len)),((Str.ofString "law"),(.top 1530)),((Str.ofString "min"),(.bi .min)),((Str.ofString "max"),(.bi .max)),((Str.ofString "int"),(.ty .int)),((Str.ofString "str"),(.ty .str)),((Str.ofString "code"),(.top 298)),((Str.ofString "mask"),(.top 241)),((Str.ofString "list"),(.ty .list)),((Str.ofString "Scope"),(.top 1467)),((Str.ofString "Store"),(.top 378)),((Str.ofString "range"),(.ty .range)),((Str.ofString "build"),(.top 1228)),((Str.ofString "shape"),(.top 1004)),((Str.ofString "all_z"),(.top 270)),((Str.ofString "widen"),(.top 1074)),((Str.ofString "folds"),(.top 1018)),((Str.ofString "moved"),(.top 1298)),((Str.ofString "sized"),(.top 1242)),((Str.ofString "tuple"),(.ty .tuple)),((Str.ofString "Design"),(.top 185)),((Str.ofString "Signal"),(.top 80)),((Str.ofString "folded"),(.top 1025)),((Str.ofString "locate"),(.top 780)),((Str.ofString "target"),(.top 1291)),((Str.ofString "extend"),(.top 326)),((Str.ofString "GateDef"),(.top 122)),((Str.ofString "sorted"),(.bi .sorted)),((Str.ofString "MAX_WIDTH"),(.int 65536)),((Str.ofString "Context"),(.top 421)),((Str.ofString "children"),(.top 903)),((Str.ofString "evaluate"),(.top 773)),((Str.ofString "_law_row"),(.top 1478)),((Str.ofString "entry_of"),(.top 1102)),((Str.ofString "AssignDef"),(.top 101)),((Str.ofString "_law_made"),(.top 1499)),((Str.ofString "make_gate"),(.top 1366)),((Str.ofString "slice_vec"),(.top 305)),((Str.ofString "_law_bits"),(.top 1492)),((Str.ofString "_law_kept"),(.top 1506)),((Str.ofString "value_bit"),(.top 1345)),((Str.ofString "net_kinds"),(.top 28)),((Str.ofString "_law_next"),(.top 1485)),((Str.ofString "put_slice"),(.top 312)),((Str.ofString "is_memory"),(.top 997)),((Str.ofString "expr_type"),(.top 1207)),((Str.ofString "target_bit"),(.top 1352)),((Str.ofString "named_type"),(.top 1130)),((Str.ofString "base_entry"),(.top 1109)),((Str.ofString "read_entry"),(.top 1011)),((Str.ofString "flat_parts"),(.top 1270)),((Str.ofString "isinstance"),(.bi .isinstance)),((Str.ofString "store_rows"),(.top 801)),((Str.ofString "DesignError"),(.top 220)),((Str.ofString "piece_place"),(.top 1338)),((Str.ofString "named_value"),(.top 1137)),((Str.ofString "check_entry"),(.top 1277)),((Str.ofString "last_select"),(.top 990)),((Str.ofString "_law_stored"),(.top 1525)),((Str.ofString "target_part"),(.top 1284)),((Str.ofString "_law_matched"),(.top 1511)),((Str.ofString "slice_target"),(.top 1305)),((Str.ofString "holder_width"),(.top 787)),((Str.ofString "delay_values"),(.top 1331)),((Str.ofString "whole_target"),(.top 1380)),((Str.ofString "input_assign"),(.top 1387)),((Str.ofString "_law_outputs"),(.top 1518)),((Str.ofString "output_count"),(.top 1359)),((Str.ofString "output_assign"),(.top 1394)),((Str.ofString "one_bit_elablv"),(.top 1312)),((Str.ofString "one_bit_target"),(.top 1319)),((Str.ofString "resolve_target"),(.top 794)),((Str.ofString "self_determined"),(.top 1235)),((Str.ofString "default_strength"),(.top 1326)),((Str.ofString "matched_connections"),(.top 1373))]
theorem glOK (P:Params):allB (fun p=>glB (KK P) p.1 p.2) glN = true:=by kernel_rfl
theorem fnL:fnsT.toL = kfM.map (fun f=>(f.a,fnD f.d)):=by kernel_rfl
theorem kfOK (P:Params):allB (kfChk (KK P)) kfL = true:=by kernel_rfl
theorem kfND:nodupB (kfL.map (·.a)) = true:=by kernel_rfl
theorem keepOK (P:Params):allB (fun f=>keepIn (KK P) (.ref f.a)) kfL = true:=by kernel_rfl
theorem cm80 (P:Params):keepIn (KK P) (.ref 80) = true∧(findIn (KK P) (.ref 80) "__init__" = some (some (.ref 42))∧typeIn (KK P) (.ref 42) = some (.type "function"))∧makesIn (KK P) 80 = true:=⟨by kernel_rfl,⟨by kernel_rfl,by kernel_rfl⟩,by kernel_rfl⟩
theorem cm101 (P:Params):keepIn (KK P) (.ref 101) = true∧(findIn (KK P) (.ref 101) "__init__" = some (some (.ref 98))∧typeIn (KK P) (.ref 98) = some (.type "function"))∧makesIn (KK P) 101 = true:=⟨by kernel_rfl,⟨by kernel_rfl,by kernel_rfl⟩,by kernel_rfl⟩
theorem cm122 (P:Params):keepIn (KK P) (.ref 122) = true∧(findIn (KK P) (.ref 122) "__init__" = some (some (.ref 119))∧typeIn (KK P) (.ref 119) = some (.type "function"))∧makesIn (KK P) 122 = true:=⟨by kernel_rfl,⟨by kernel_rfl,by kernel_rfl⟩,by kernel_rfl⟩
theorem cm185 (P:Params):keepIn (KK P) (.ref 185) = true∧(findIn (KK P) (.ref 185) "__init__" = some (some (.ref 140))∧typeIn (KK P) (.ref 140) = some (.type "function"))∧makesIn (KK P) 185 = true:=⟨by kernel_rfl,⟨by kernel_rfl,by kernel_rfl⟩,by kernel_rfl⟩
theorem cm207 (P:Params):keepIn (KK P) (.ref 207) = true∧(findIn (KK P) (.ref 207) "__init__" = some (some (.ref 204))∧typeIn (KK P) (.ref 204) = some (.type "function"))∧makesExcIn (KK P) 207 = true:=⟨by kernel_rfl,⟨by kernel_rfl,by kernel_rfl⟩,by kernel_rfl⟩
theorem cm220 (P:Params):keepIn (KK P) (.ref 220) = true∧(findIn (KK P) (.ref 220) "__init__" = some (some (.ref 204))∧typeIn (KK P) (.ref 204) = some (.type "function"))∧makesExcIn (KK P) 220 = true:=⟨by kernel_rfl,⟨by kernel_rfl,by kernel_rfl⟩,by kernel_rfl⟩
theorem cm378 (P:Params):keepIn (KK P) (.ref 378) = true∧(findIn (KK P) (.ref 378) "__init__" = some (some (.ref 354))∧typeIn (KK P) (.ref 354) = some (.type "function"))∧makesIn (KK P) 378 = true:=⟨by kernel_rfl,⟨by kernel_rfl,by kernel_rfl⟩,by kernel_rfl⟩
theorem cm421 (P:Params):keepIn (KK P) (.ref 421) = true∧(findIn (KK P) (.ref 421) "__init__" = some (some (.ref 397))∧typeIn (KK P) (.ref 397) = some (.type "function"))∧makesIn (KK P) 421 = true:=⟨by kernel_rfl,⟨by kernel_rfl,by kernel_rfl⟩,by kernel_rfl⟩
theorem cm1467 (P:Params):keepIn (KK P) (.ref 1467) = true∧(findIn (KK P) (.ref 1467) "__init__" = some (some (.ref 1408))∧typeIn (KK P) (.ref 1408) = some (.type "function"))∧makesIn (KK P) 1467 = true:=⟨by kernel_rfl,⟨by kernel_rfl,by kernel_rfl⟩,by kernel_rfl⟩
end Mine
end
section
set_option maxHeartbeats 1000000
namespace Mine
noncomputable section
noncomputable def bodyOf (d:Option PySem.Stmt):List PySem.Stmt:=match d with | some (.FunctionDef _ _ b _ _ _ _ _ _ _)=>b | _=>[]
noncomputable def scOf (d:Option PySem.Stmt):Scope:=match d with | some (.FunctionDef _ _ _ _ _ _ sc _ _ _)=>sc | _=>default
end
theorem lookup_map {g:Kf→Obj} {r:Frag} {f:Kf}:∀ {l:List Kf},nodupB (l.map (·.a)) = true→f∈l→(l.map (fun f=>(f.a,g f))++r).lookup f.a = some (g f):=by
 intro l
 induction l with
 | nil=>intro _ hf;exact absurd hf List.not_mem_nil
 | cons y l ih =>
  intro h hf
  refine x0a2 (andB_ok (show andB (notB (hasN (l.map (·.a)) y.a)) (nodupB (l.map (·.a))) = true from h) :) fun h1 h2=>?_
  rw [List.map_cons,List.cons_append,List.lookup_cons]
  rcases List.mem_cons.mp hf with rfl | hf
  ·simp
  ·have hne:(f.a == y.a) = false:=beq_eq_false_iff_ne.mpr fun q=>by
    have:∀ (l:List Kf),f∈l→hasN (l.map (·.a)) f.a = true:=by
     intro l
     induction l with
     | nil=>intro h;cases h
     | cons z l ih =>
      intro h
      show (Bool.rec (hasN (l.map (·.a)) f.a) true (Nat.beq z.a f.a):Bool) = true
      rcases List.mem_cons.mp h with rfl | h
      ·rw [Nat.beq_refl]
      ·rw [ih h];cases Nat.beq z.a f.a <;> rfl
    rw [← q,this l hf] at h1
    exact ft' h1
   rw [hne]
   exact ih h2 hf
theorem kf_lookup (P:Params) {f:Kf} (h:f∈kfL):(KK P).lookup f.a = some (kFn f.q f.dfl f.pm f.cd f.d):=lookup_map (g:=fun f=>kFn f.q f.dfl f.pm f.cd f.d) kfND h
noncomputable def theC (w:World) (s:Shared) (mg:Str→Option Value) (X:(KK w.params).In s.heap) (hT:s.heap.get? lawP = some (tabObj #[])):SC where
 w:=w
 K:=KK w.params
 h0:=s.heap
 base:={}
 P:=lawP
 gens:=s.gens
 os:=s.os
 lq:="law.<locals>.<lambda>"
 pm:=(mg "__name__").getD .none
 hP:=⟨_,hT⟩
 hM:=⟨_,X sysModules _ (show (KK w.params).lookup sysModules = some (kD [kE w.params "builtins" 162 (.ref 4),kE w.params "__main__" 163 (.ref 5)] 2) by kernel_rfl)⟩
 hB:=rfl
section
variable {w:World} {s:Shared} {mg mb:Str→Option Value} {X:(KK w.params).In s.heap} {hT:s.heap.get? lawP = some (tabObj #[])}
theorem fn_at (f:Kf) (hf:f∈kfL) (body:List PySem.Stmt) (hb:bodyOf f.d = body):∃ fo fd,FnOK (theC w s mg X hT) TT (fnT f.d) f.a fo fd body∧fd.scope = scOf f.d∧fd.qualname = Str.ofString f.q∧fd.code = f.cd:=by
 refine x11a5 (fn_of (C:=theC w s mg X hT) (kf_lookup w.params hf) (allB_ok (kfOK w.params) f hf) :) fun name args b x1 x2 x3 sc x4 x5 x6 fd e K e1 e2 e3=>?_
 have:b = body:=by rw [← hb,e];rfl
 subst this
 exact ⟨_,fd,K,by rw [e1,e];rfl,e2,e3⟩
theorem biB_ok {o:Option Value} {n:String} (h:(match o with | some v=>(match v with | .builtin i=>i == n | _=>false) | none=>false) = true):o = some (.builtin n):=by
 induction o using Option.casesOn with
 | none=>exact ft' h
 | some v =>
  induction v using Value.casesOn with
  | builtin i=>rw [show i = n by simpa using h]
  | _=>exact ft' h
theorem tyB_ok {o:Option Value} {n:String} (h:(match o with | some v=>(match v with | .type i=>i == n | _=>false) | none=>false) = true):o = some (.type n):=by
 induction o using Option.casesOn with
 | none=>exact ft' h
 | some v =>
  induction v using Value.casesOn with
  | type i=>rw [show i = n by simpa using h]
  | _=>exact ft' h
theorem gl_ok (X:(KK w.params).In s.heap) (g:s.heap.Ns mainGlobals mg) (hb:∀ x:Str,x≠"__name__"→mb x = bootBuiltins x):∀ x v,TT.tx.glob.get (key x) = some v→(x == ("__debug__":Str)) = false∧∃ vv,(∀ ρ h,IsV ρ h v vv)∧(mg x = some vv∨(mg x = none∧mb x = some vv)):=by
 intro x v h
 have hm:=Tr.get_mem (t:=globT) h
 have e0:globT.toL = glN.map fun p=>(key p.1,p.2):=by rw [glL];rfl
 rw [e0] at hm
 obtain ⟨⟨y,u⟩,hp,e⟩:=List.mem_map.mp hm
 refine x0a2 (Prod.mk.inj e :) fun e1 q1q=>?_;subst q1q
 obtain rfl:=key_inj e1
 have h0:=allB_ok (glOK w.params) _ hp
 unfold glB at h0
 refine x0a2 (andB_ok h0 :) fun h1 h2=>?_
 refine x0a2 (andB_ok h2 :) fun h2 h3=>?_
 have hd:(y == ("__debug__":Str)) = false:=by induction q:y == ("__debug__":Str) using Bool.casesOn <;> first | rfl | (rw [q] at h1;exact ft' h1)
 have hn:y≠"__name__":=fun q=>by rw [q] at h2;exact ft' h2
 refine ⟨hd,?_⟩
 induction u using V.casesOn with
 | top a=>exact ⟨.ref a,fun _ _=>.top,.inl (mg_of X g (isSR_ok h3))⟩
 | int i =>
  dsimp only at h3
  induction eo:nsIn (KK w.params) mainGlobals y using Option.casesOn with
  | none=>rw [eo] at h3;exact ft' h3
  | some o =>
   rw [eo] at h3
   induction o using Option.casesOn with
   | none=>exact ft' h3
   | some v=>exact ⟨v,fun ρ h=>valIs_ok h3 ρ h,.inl (mg_of X g eo)⟩
 | bi b =>
  refine x0a2 (andB_ok h3 :) fun g1 g2=>?_
  exact ⟨_,fun _ _=>.bi,.inr ⟨mg_none_of X g (isSN_ok g1),(hb y hn).trans (biB_ok g2)⟩⟩
 | ty b =>
  refine x0a2 (andB_ok h3 :) fun g1 g2=>?_
  exact ⟨_,fun _ _=>.ty,.inr ⟨mg_none_of X g (isSN_ok g1),(hb y hn).trans (tyB_ok g2)⟩⟩
 | _=>exact ft' h3
noncomputable def gr_of (g:s.heap.Ns mainGlobals mg) (b:s.heap.Ns builtinsNs mb) (lim:s.heap.NoLimit) (bAt:s.heap.BuiltinsAt mg lawP) (hb:∀ x:Str,x≠"__name__"→mb x = bootBuiltins x):Gr (theC w s mg X hT) TT where
 cls:=fun c cl h=>by
  have hm:=Tr.get_mem (t:=clsT) h
  rw [clsL] at hm
  have all:∀ p∈([(80,cl80),(101,cl101),(122,cl122),(185,cl185),(207,cl207),(220,cl220),(378,cl378),(421,cl421),(1467,cl1467)]:List (Nat×Cl)),ClsOK (KK w.params) p.1 p.2:=List.forall_mem_cons.mpr ⟨ck80 _,List.forall_mem_cons.mpr ⟨ck101 _,List.forall_mem_cons.mpr ⟨ck122 _,List.forall_mem_cons.mpr ⟨ck185 _,List.forall_mem_cons.mpr ⟨ck207 _,List.forall_mem_cons.mpr ⟨ck220 _,List.forall_mem_cons.mpr ⟨ck378 _,List.forall_mem_cons.mpr ⟨ck421 _,List.forall_mem_cons.mpr ⟨ck1467 _,fun _ h=>(nomatch h)⟩⟩⟩⟩⟩⟩⟩⟩⟩
  exact all _ hm
 nValues:=rfl
 nGet:=rfl
 nSet:=rfl
 nAppend:=rfl
 nPop:=rfl
 nKind:=rfl
 mg:=mg
 mb:=mb
 X:=X
 noP:=show (KK w.params).lookup lawP = none by kernel_rfl
 g:=g
 gP:=show mainGlobals≠lawP by decide +kernel
 b:=b
 bP:=show builtinsNs≠lawP by decide +kernel
 lim:=lim
 bAt:=bAt
 pmE:=rfl
 limP:=show cStatics≠lawP by decide +kernel
 glob:=gl_ok X g hb
theorem gd_of (g:s.heap.Ns mainGlobals mg) (b:s.heap.Ns builtinsNs mb) (lim:s.heap.NoLimit) (bAt:s.heap.BuiltinsAt mg lawP) (hb:∀ x:Str,x≠"__name__"→mb x = bootBuiltins x):Nonempty (Gd (theC w s mg X hT) TT):=⟨{
 gr:=gr_of g b lim bAt hb
 str:=fun c cl h hx=>by
  have hm:=Tr.get_mem (t:=clsT) h
  rw [clsL] at hm
  have all:∀ p∈([(80,cl80),(101,cl101),(122,cl122),(185,cl185),(207,cl207),(220,cl220),(378,cl378),(421,cl421),(1467,cl1467)]:List (Nat×Cl)),p.2.exc = false→ClsStr (KK w.params) p.1:=List.forall_mem_cons.mpr ⟨(fun _=>cs80 _),List.forall_mem_cons.mpr ⟨(fun _=>cs101 _),List.forall_mem_cons.mpr ⟨(fun _=>cs122 _),List.forall_mem_cons.mpr ⟨(fun _=>cs185 _),List.forall_mem_cons.mpr ⟨(fun q=>(by exact tf' q)),List.forall_mem_cons.mpr ⟨(fun q=>(by exact tf' q)),List.forall_mem_cons.mpr ⟨(fun _=>cs378 _),List.forall_mem_cons.mpr ⟨(fun _=>cs421 _),List.forall_mem_cons.mpr ⟨(fun _=>cs1467 _),fun _ h=>(nomatch h)⟩⟩⟩⟩⟩⟩⟩⟩⟩
  exact all _ hm hx
 exc:=⟨show mroIn (KK w.params) 220 (.type "BaseException") = some true by kernel_rfl,show typeIn (KK w.params) (.ref 220) = some (.type "type") by kernel_rfl⟩
 kept:=by
  refine x2a4 (fn_at (w:=w) (s:=s) (mg:=mg) (X:=X) (hT:=hT) ⟨1506,"_law_kept",.none,(kS "law_ok0101_01" 2372),(.ref 1505),(defAt 186)⟩ (List.mem_of_getElem? (i:=71) (by kernel_rfl)) (keptBody ⟨1544,15,1544,18⟩ ⟨1544,15,1544,20⟩ ⟨1544,8,1544,20⟩ ⟨1545,11,1545,22⟩ ⟨1546,15,1546,20⟩ ⟨1546,15,1546,25⟩ ⟨1546,8,1546,25⟩ ⟨1545,4,1546,25⟩ ⟨1543,4,1546,25⟩) (by kernel_rfl) :) fun fo fd K e1 e2 e3=>?_
  refine ⟨⟨_,fo,fd,_,_,_,_,_,_,_,_,_,K,by kernel_rfl,by kernel_rfl,by rw [e1];kernel_rfl,by rw [e1];kernel_rfl,by rw [e1];kernel_rfl,by rw [e1];kernel_rfl⟩,mg_of X g (by kernel_rfl),?_,rfl⟩
  exact ⟨by kernel_rfl,by kernel_rfl,by kernel_rfl,by kernel_rfl,by kernel_rfl,by kernel_rfl,by kernel_rfl⟩
 keptK:=show keepIn (KK w.params) (.ref 1506) = true by kernel_rfl
 next:=by
  refine x2a4 (fn_at (w:=w) (s:=s) (mg:=mg) (X:=X) (hT:=hT) ⟨1485,"_law_next",.none,(kS "law_ok0101_01" 2372),(.ref 1484),(defAt 183)⟩ (List.mem_of_getElem? (i:=70) (by kernel_rfl)) (nextBody ⟨1526,24,1526,27⟩ ⟨1526,31,1526,33⟩ ⟨1526,24,1526,33⟩ ⟨1526,11,1526,14⟩ ⟨1526,11,1526,18⟩ ⟨1526,11,1526,20⟩ ⟨1526,39,1526,40⟩ ⟨1526,11,1526,40⟩ ⟨1526,4,1526,40⟩ 0) (by kernel_rfl) :) fun fo fd K e1 e2 e3=>?_
  exact ⟨show keepIn (KK w.params) (.ref 1485) = true by kernel_rfl,⟨_,fo,fd,_,_,_,_,_,_,_,_,_,0,K,by kernel_rfl,by kernel_rfl,by rw [e1];kernel_rfl,by rw [e1];kernel_rfl,rfl⟩⟩
 fn:=fun a fn h=>by
  have hm:=Tr.get_mem (t:=fnsT) h
  rw [fnL] at hm
  refine x1a2 (List.mem_map.mp hm :) fun f hf e=>?_
  refine x0a2 (Prod.mk.inj e :) fun q0q q1q=>?_;subst q0q;subst q1q
  have hf':f∈kfL:=List.mem_append_left _ hf
  refine x2a2 (fn_at (w:=w) (s:=s) (mg:=mg) (X:=X) (hT:=hT) f hf' _ rfl :) fun fo fd K _=>?_
  exact ⟨allB_ok (keepOK w.params) f hf',fo,fd,_,by rw [fnD_eq];exact K⟩
 cls:=fun c cl h=>by
  have hm:=Tr.get_mem (t:=clsT) h
  rw [clsL] at hm
  have all:∀ p∈([(80,cl80),(101,cl101),(122,cl122),(185,cl185),(207,cl207),(220,cl220),(378,cl378),(421,cl421),(1467,cl1467)]:List (Nat×Cl)),keepIn (KK w.params) (.ref p.1) = true∧(findIn (KK w.params) (.ref p.1) "__init__" = some (some (.ref p.2.init))∧typeIn (KK w.params) (.ref p.2.init) = some (.type "function"))∧(p.2.exc = false→makesIn (KK w.params) p.1 = true)∧(p.2.exc = true→makesExcIn (KK w.params) p.1 = true):=List.forall_mem_cons.mpr ⟨let z:=cm80 w.params;⟨z.1,z.2.1,(fun _=>z.2.2),(fun q=>(by exact ft' q))⟩,List.forall_mem_cons.mpr ⟨let z:=cm101 w.params;⟨z.1,z.2.1,(fun _=>z.2.2),(fun q=>(by exact ft' q))⟩,List.forall_mem_cons.mpr ⟨let z:=cm122 w.params;⟨z.1,z.2.1,(fun _=>z.2.2),(fun q=>(by exact ft' q))⟩,List.forall_mem_cons.mpr ⟨let z:=cm185 w.params;⟨z.1,z.2.1,(fun _=>z.2.2),(fun q=>(by exact ft' q))⟩,List.forall_mem_cons.mpr ⟨let z:=cm207 w.params;⟨z.1,z.2.1,(fun q=>(by exact tf' q)),(fun _=>z.2.2)⟩,List.forall_mem_cons.mpr ⟨let z:=cm220 w.params;⟨z.1,z.2.1,(fun q=>(by exact tf' q)),(fun _=>z.2.2)⟩,List.forall_mem_cons.mpr ⟨let z:=cm378 w.params;⟨z.1,z.2.1,(fun _=>z.2.2),(fun q=>(by exact ft' q))⟩,List.forall_mem_cons.mpr ⟨let z:=cm421 w.params;⟨z.1,z.2.1,(fun _=>z.2.2),(fun q=>(by exact ft' q))⟩,List.forall_mem_cons.mpr ⟨let z:=cm1467 w.params;⟨z.1,z.2.1,(fun _=>z.2.2),(fun q=>(by exact ft' q))⟩,fun _ h=>(nomatch h)⟩⟩⟩⟩⟩⟩⟩⟩⟩
  exact all _ hm }⟩
theorem st_of (g:s.heap.Ns mainGlobals mg):StOK (theC w s mg X hT) TT where
 keep:=fun x f h=>by
  have e:getFn TT (key x) = lk (([((Str.ofString "get"),361),((Str.ofString "set_bits"),375)]:List (Str×Nat)).map fun p=>(key p.1,p.2)) (key x):=by kernel_rfl
  rw [e] at h
  have all:∀ p∈([((Str.ofString "get"),361),((Str.ofString "set_bits"),375)]:List (Str×Nat)),keepIn (KK w.params) (.ref p.2) = true:=List.forall_mem_cons.mpr ⟨(by kernel_rfl),List.forall_mem_cons.mpr ⟨(by kernel_rfl),fun _ h=>(nomatch h)⟩⟩
  exact all _ (lkM_ok h)
 def_:=fun f h=>by
  have e:getFn TT (key "set_bits") = some 375:=by kernel_rfl
  rw [e] at h
  (refine jS h fun j=>?_;clear h;subst j)
  refine x2a4 (fn_at (w:=w) (s:=s) (mg:=mg) (X:=X) (hT:=hT) ⟨375,"Store.set_bits",.none,(kS "gateloom.store" 679),(.ref 374),(methAt 28 3)⟩ (List.mem_of_getElem? (i:=19) (by kernel_rfl)) (setIf ⟨⟨225,11,225,16⟩,⟨225,20,225,24⟩,⟨225,11,225,24⟩,⟨226,12,226,15⟩,⟨226,18,226,22⟩,⟨226,18,226,26⟩,⟨226,27,226,30⟩,⟨226,18,226,31⟩,⟨226,12,226,31⟩,⟨227,12,227,15⟩,⟨227,18,227,27⟩,⟨227,28,227,31⟩,⟨227,33,227,35⟩,⟨227,37,227,42⟩,⟨227,18,227,43⟩,⟨227,12,227,43⟩,⟨228,15,228,18⟩,⟨228,22,228,25⟩,⟨228,15,228,25⟩,⟨229,23,229,28⟩,⟨229,16,229,28⟩,⟨228,12,229,28⟩,⟨230,12,230,16⟩,⟨230,12,230,23⟩,⟨230,24,230,27⟩,⟨230,12,230,28⟩,⟨230,31,230,34⟩,⟨230,12,230,34⟩,⟨231,19,231,23⟩,⟨231,12,231,23⟩,⟨225,8,231,23⟩⟩ :: dropL 1 (bodyOf (methAt 28 3))) (by kernel_rfl) :) fun fo fd K e1 e2 e3=>?_
  refine ⟨_,fo,fd,_,_,K,by kernel_rfl,by kernel_rfl,by rw [e1];kernel_rfl,?_,by rw [e1];kernel_rfl,rfl⟩
  rw [e1]
  exact List.forall_mem_cons.mpr ⟨(by kernel_rfl),List.forall_mem_cons.mpr ⟨(by kernel_rfl),List.forall_mem_cons.mpr ⟨(by kernel_rfl),List.forall_mem_cons.mpr ⟨(by kernel_rfl),List.forall_mem_cons.mpr ⟨(by kernel_rfl),List.forall_mem_cons.mpr ⟨(by kernel_rfl),List.forall_mem_cons.mpr ⟨(by kernel_rfl),fun _ h=>(nomatch h)⟩⟩⟩⟩⟩⟩⟩
 put:=by kernel_rfl
theorem row_of:RowOK (theC w s mg X hT) where
 keep:=show keepIn (KK w.params) (.ref rowA) = true by kernel_rfl
 def_:=by
  refine x2a4 (fn_at (w:=w) (s:=s) (mg:=mg) (X:=X) (hT:=hT) ⟨1478,"_law_row",.none,(kS "law_ok0101_01" 2372),(.ref 1477),(defAt 182)⟩ (List.mem_of_getElem? (i:=69) (by kernel_rfl)) rowBody (by kernel_rfl) :) fun fo fd K e1 e2 e3=>?_
  exact ⟨_,fo,fd,K,by kernel_rfl,by kernel_rfl,by rw [e1];kernel_rfl⟩
theorem law_of:LawOK (theC w s mg X hT) lawA where
 def_:=by
  refine x2a4 (fn_at (w:=w) (s:=s) (mg:=mg) (X:=X) (hT:=hT) ⟨1530,"law",.none,(kS "law_ok0101_01" 2372),(.ref 1529),(defAt 190)⟩ (List.mem_of_getElem? (i:=72) (by kernel_rfl)) lawBody (by kernel_rfl) :) fun fo fd K e1 e2 e3=>?_
  exact ⟨_,fo,fd,K,by kernel_rfl,by kernel_rfl,by rw [e1];kernel_rfl,lawC,e3,codeHd_of_K X (by kernel_rfl),by rw [e2];kernel_rfl⟩
end
end Mine
end
section
set_option maxHeartbeats 1000000
namespace Mine
abbrev rwW:RowW:=PySem.Challenge.rw_ok0101_01.row.toRowW
theorem args_of {cl:Str→Option Addr} {h:Heap} {args:List WData} {vals:List Value} {as:List Addr} {P:Params} (hpre:rwW.claim.pre args = true) (hlay:WData.layableAll args = true) (hrd:ReadsAllW rwW.records cl h vals args as) (hwl:WellAll P h vals args) (hlo:∀ a∈as,(a == sysModules) = false) :
  ∃ (scr:Addr) (is:List Int) (vs:List Value),vals = [.ref scr]∧h.IsList scr vs.toArray∧IntsAre vs is∧is.length≤63:=by
 wrow_args hpre hlay hrd hwl hlo
 exact ⟨_,_,_,rfl,by assumption,by assumption,by lia⟩
theorem ints_vs {vs:List Value} {is:List Int} (x:IntsAre vs is) (ρ:Va) (h:Heap):IsVs ρ h (is.map V.int) vs:=by
 induction x with
 | nil=>exact .nil
 | cons _ _ _ ih=>exact .cons .int ih
noncomputable def lawCo (P:Params):Obj:=((KK P).lookup lawC).getD default
noncomputable def fieldsOf (o:Obj):Array Value:=match o.data with | .fields vs=>vs | _=>#[]
section
variable {w:World} {s s':Shared} {mg mb:Str→Option Value} {X:(KK w.params).In s.heap} {hT:s.heap.get? lawP = some (tabObj #[])} {F:Fm} {ρ:Va} {σ:St}
theorem law_table (X:(KK w.params).In s.heap):isCodeTable s.heap lawP :=
 ⟨lawC,lawCo w.params,fieldsOf (lawCo w.params),X _ _ (by kernel_rfl),by kernel_rfl,by kernel_rfl,by kernel_rfl⟩
theorem oldK_of (R:Rel (theC w s mg X hT) F ρ σ s'):OldK s.heap s'.heap where
 old:=fun b o e=>by
  by_cases q:b = lawP
  ·subst q
   rw [hT] at e
   (refine jS e fun j=>?_;clear e;subst j)
   refine x1a2 (R.tab.tab :) fun ps e1 _=>?_
   refine .inr (.inl ⟨law_table X,rfl,#[],ps,rfl,?_⟩)
   rw [Array.empty_append]
   exact e1
  ·exact .inl (R.keep b o e q)
 there:=fun b o e=>by
  by_cases q:b = lawP
  ·subst q
   refine x1a2 (R.tab.tab :) fun ps e1 _=>?_
   exact ⟨_,e1⟩
  ·exact ⟨o,R.keep b o e q⟩
end
noncomputable def viewQ:Program:={ PySem.Challenge.pw_ok0101_01 with main:={ PySem.Challenge.pw_ok0101_01.main with body:=PySem.Challenge.pw_ok0101_01.main.body.drop 190 } }
theorem walk_ok (K:Chk) (loose:List Str):∀ d kwd,defOf viewQ PySem.Challenge.rw_ok0101_01.row.name = some (d,kwd)→WalkO viewQ loose (fun _ _=>True) (kmHook KK Kas Kas_eq [1527]).says PySem.Challenge.rw_ok0101_01.row.toRowW d kwd fun f vs=>PySem.call f vs:=by
 intro d kwd hdef w s₀ s₁ mg mb G Y a o pm cd doc dV kV ho hd hcd hD hmg hg args vals as hpre hlay hrd hwl hlo
 have X:(KK w.params).In s₁.heap:=km_in_of Y
 have hT:s₁.heap.get? lawP = some (tabObj #[]):=km_tabs_of Y 1527 (.head _)
 have T:=G.T
 refine x3a4 (args_of hpre hlay hrd hwl hlo :) fun scr is vs q3q hL hI hlen=>?_;subst q3q
 have hn:d.name = "law":=defOf_name hdef
 rw [hn] at hmg
 have hma:mg "law" = some (.ref lawA):=mg_of X T.g (by kernel_rfl)
 rw [hma] at hmg
 cases hmg
 refine x2a6 (T.bmain :) fun bm ob b1 b2 b3 b4 b5 b6=>?_
 have bAt:s₁.heap.BuiltinsAt mg lawP:=by
  refine ⟨bm,ob,b1,b2,fun q=>?_,fun q=>?_,b3,b4,b5,b6⟩
  ·refine x3a3 (T.g :) fun o' es ep e dd _=>?_
   rw [q,e] at b3
   (refine jS b3 fun j=>?_;clear b3;subst j)
   rw [b6] at dd;cases dd
  ·rw [q,hT] at b3
   (refine jS b3 fun j=>?_;clear b3;subst j)
   cases b4
 obtain ⟨D⟩:=gd_of (w:=w) (s:=s₁) (mg:=mg) (mb:=mb) (X:=X) (hT:=hT) T.g T.b T.nolimit bAt T.builtins
 have hS:ScrOK (theC w s₁ mg X hT) scr is:=⟨⟨vs,hL,fun ρ h=>ints_vs hI ρ h⟩,hlen,fun q=>by
  refine x1a3 hL fun o' e hc _=>?_;clear hL
  have q':scr = lawP:=q
  have:s₁.heap.get? lawP = some o':=by rw [← q'];exact e
  rw [hT] at this
  (refine jS this fun j=>?_;clear this;subst j)
  cases hc⟩
 refine law_call D (st_of T.g) K row_of law_of hS rfl rfl rfl (fun _=>rfl) ⟨⟨#[],hT,trivial,fun pos cv e=>by exact nS' e⟩⟩ fun F ρ' σ' s' R=>?_
 refine ⟨.inl ⟨.bool true,.bool true,[],rfl,fun _=>rfl,.bool true,by kernel_rfl,fun _=>⟨List.nodup_nil,fun a h=>(nomatch h)⟩⟩,oldK_of R,R.os,.of_eq (R.gens.trans hg)⟩
end Mine
end
section
set_option backward.match.sparseCases true
namespace Mine
noncomputable section
/-- each once -/
def dd (l:List Nat):List Nat:=List.rec [] (fun x r ih=>match hasN r x with | true=>ih | false=>x :: ih) l
def outD (w c:Nat):List Nat:=dd [w,w * c,w + 1,1,c]
end
theorem dd_mem {x:Nat}:∀ {l:List Nat},x∈l→x∈dd l
  | y :: l,h=>by
    have e:dd (y :: l) = (match hasN l y with | true=>dd l | false=>y :: dd l):=rfl
    have hm:∀ {l:List Nat},hasN l y = true→y∈l:=by
      intro l
      induction l with
      | nil=>intro h;cases h
      | cons z l ih =>
        intro h
        have h':(Bool.rec (hasN l y) true (Nat.beq z y):Bool) = true:=h
        cases q:Nat.beq z y with
        | true=>rw [Nat.eq_of_beq_eq_true q];exact .head _
        | false=>rw [q] at h';exact .tail _ (ih h')
    rw [e]
    cases q:hasN l y with
    | true =>
      rcases List.mem_cons.mp h with rfl | h
      · exact dd_mem (hm q)
      · exact dd_mem h
    | false =>
      rcases List.mem_cons.mp h with rfl | h
      · exact .head _
      · exact .tail _ (dd_mem h)
theorem outD_mem {w c o:Nat} (h:okCombo w c o = true):o∈outD w c:=by
  obtain ⟨_,h⟩:=andB_ok h
  obtain ⟨_,h⟩:=andB_ok h
  refine dd_mem ?_
  have nb:∀ {a b:Nat},Nat.beq a b = true→a = b:=Nat.eq_of_beq_eq_true
  rcases orB_ok h with q | h
  · rw [nb q];exact .head _
  rcases orB_ok h with q | h
  · rw [nb q];exact .tail _ (.head _)
  rcases orB_ok h with q | h
  · rw [nb q];exact .tail _ (.tail _ (.head _))
  rcases orB_ok h with q | h
  · rw [nb q];exact .tail _ (.tail _ (.tail _ (.head _)))
  · rw [nb h];exact .tail _ (.tail _ (.tail _ (.tail _ (.head _))))
theorem okW {w c o:Nat} (h:okCombo w c o = true):w = 1∨w = 2∨w = 3∨w = 4:=by
  obtain ⟨h1,_⟩:=andB_ok h
  obtain ⟨a,b⟩:=andB_ok h1
  have a:=Nat.le_of_ble_eq_true a
  have b:=Nat.le_of_ble_eq_true b
  omega
theorem c14:chk14 = true:=by decide +kernel
theorem ca1_f:allB (fun o=>runC5 1 1 o (.bool false) 0 false) (outD 1 1) = true:=by decide +kernel
theorem ca1_t:allB (fun o=>runC5 1 1 o (.bool true) 0 true) (outD 1 1) = true:=by decide +kernel
theorem cb1_2:allB (fun o=>runC5 1 2 o (.sb 0) 1 false) (outD 1 2) = true:=by decide +kernel
theorem cb1_3:allB (fun o=>runC5 1 3 o (.sb 0) 1 false) (outD 1 3) = true:=by decide +kernel
theorem cb1_4:allB (fun o=>runC5 1 4 o (.sb 0) 1 false) (outD 1 4) = true:=by decide +kernel
theorem ca2_f:allB (fun o=>runC5 2 1 o (.bool false) 0 false) (outD 2 1) = true:=by decide +kernel
theorem ca2_t:allB (fun o=>runC5 2 1 o (.bool true) 0 true) (outD 2 1) = true:=by decide +kernel
theorem cb2_2:allB (fun o=>runC5 2 2 o (.sb 0) 1 false) (outD 2 2) = true:=by decide +kernel
theorem cb2_3:allB (fun o=>runC5 2 3 o (.sb 0) 1 false) (outD 2 3) = true:=by decide +kernel
theorem cb2_4:allB (fun o=>runC5 2 4 o (.sb 0) 1 false) (outD 2 4) = true:=by decide +kernel
theorem ca3_f:allB (fun o=>runC5 3 1 o (.bool false) 0 false) (outD 3 1) = true:=by decide +kernel
theorem ca3_t:allB (fun o=>runC5 3 1 o (.bool true) 0 true) (outD 3 1) = true:=by decide +kernel
theorem cb3_2:allB (fun o=>runC5 3 2 o (.sb 0) 1 false) (outD 3 2) = true:=by decide +kernel
theorem cb3_3:allB (fun o=>runC5 3 3 o (.sb 0) 1 false) (outD 3 3) = true:=by decide +kernel
theorem cb3_4:allB (fun o=>runC5 3 4 o (.sb 0) 1 false) (outD 3 4) = true:=by decide +kernel
theorem ca4_f:allB (fun o=>runC5 4 1 o (.bool false) 0 false) (outD 4 1) = true:=by decide +kernel
theorem ca4_t:allB (fun o=>runC5 4 1 o (.bool true) 0 true) (outD 4 1) = true:=by decide +kernel
theorem cb4_2:allB (fun o=>runC5 4 2 o (.sb 0) 1 false) (outD 4 2) = true:=by decide +kernel
theorem cb4_3:allB (fun o=>runC5 4 3 o (.sb 0) 1 false) (outD 4 3) = true:=by decide +kernel
theorem cb4_4:allB (fun o=>runC5 4 4 o (.sb 0) 1 false) (outD 4 4) = true:=by decide +kernel
theorem cl1:andB (lapOK 1 0) (andB (lapOK 1 1) (andB (lapOK 1 2) (lapOK 1 3))) = true:=by decide +kernel
theorem cz1_0:lz 1 0 0 [] = true:=by decide +kernel
theorem cz1_1:lz 1 1 1 [] = true:=by decide +kernel
theorem cz1_2:lz 1 2 2 [] = true:=by decide +kernel
theorem cz1_3:lz 1 3 3 [] = true:=by decide +kernel
theorem cz1_4:lz 1 4 4 [] = true:=by decide +kernel
theorem cl2:andB (lapOK 2 0) (andB (lapOK 2 1) (andB (lapOK 2 2) (lapOK 2 3))) = true:=by decide +kernel
theorem cz2_0:lz 2 0 0 [] = true:=by decide +kernel
theorem cz2_1:lz 2 1 1 [] = true:=by decide +kernel
theorem cz2_2:lz 2 2 2 [] = true:=by decide +kernel
theorem cz2_3:lz 2 3 3 [] = true:=by decide +kernel
theorem cz2_4:lz 2 4 4 [] = true:=by decide +kernel
theorem cl3:andB (lapOK 3 0) (andB (lapOK 3 1) (andB (lapOK 3 2) (lapOK 3 3))) = true:=by decide +kernel
theorem cz3_0:lz 3 0 0 [] = true:=by decide +kernel
theorem cz3_1:lz 3 1 1 [] = true:=by decide +kernel
theorem cz3_2:lz 3 2 2 [] = true:=by decide +kernel
theorem cz3_3:lz 3 3 3 [] = true:=by decide +kernel
theorem cz3_4:lz 3 4 4 [] = true:=by decide +kernel
theorem ck:allB kindOK kinds = true:=by decide +kernel
theorem chk:Chk where
  c14:=c14
  one:=fun w o b h=>by
    have hm:=outD_mem h
    rcases okW h with rfl | rfl | rfl | rfl <;> cases b
    · exact allB_ok ca1_f o hm
    · exact allB_ok ca1_t o hm
    · exact allB_ok ca2_f o hm
    · exact allB_ok ca2_t o hm
    · exact allB_ok ca3_f o hm
    · exact allB_ok ca3_t o hm
    · exact allB_ok ca4_f o hm
    · exact allB_ok ca4_t o hm
  more:=fun w c o h hc=>by
    have hm:=outD_mem h
    obtain ⟨⟨_,h4⟩,_⟩:=okCombo_ok h
    have hc':c = 2∨c = 3∨c = 4:=by omega
    rcases okW h with rfl | rfl | rfl | rfl <;> rcases hc' with rfl | rfl | rfl
    · exact allB_ok cb1_2 o hm
    · exact allB_ok cb1_3 o hm
    · exact allB_ok cb1_4 o hm
    · exact allB_ok cb2_2 o hm
    · exact allB_ok cb2_3 o hm
    · exact allB_ok cb2_4 o hm
    · exact allB_ok cb3_2 o hm
    · exact allB_ok cb3_3 o hm
    · exact allB_ok cb3_4 o hm
    · exact allB_ok cb4_2 o hm
    · exact allB_ok cb4_3 o hm
    · exact allB_ok cb4_4 o hm
  lz:=fun n k h1 h2 h3=>by
    have hn:n = 1∨n = 2∨n = 3:=by omega
    have hk:k = 0∨k = 1∨k = 2∨k = 3∨k = 4:=by omega
    rcases hn with rfl | rfl | rfl <;> rcases hk with rfl | rfl | rfl | rfl | rfl
    · exact cz1_0
    · exact cz1_1
    · exact cz1_2
    · exact cz1_3
    · exact cz1_4
    · exact cz2_0
    · exact cz2_1
    · exact cz2_2
    · exact cz2_3
    · exact cz2_4
    · exact cz3_0
    · exact cz3_1
    · exact cz3_2
    · exact cz3_3
    · exact cz3_4
  lap:=fun n k h1 h2 h3=>by
    have hn:n = 1∨n = 2∨n = 3:=by omega
    have hk:k = 0∨k = 1∨k = 2∨k = 3:=by omega
    have four:∀ {a b c d:Bool},andB a (andB b (andB c d)) = true→a = true∧b = true∧c = true∧d = true:=fun h=>let ⟨p,h⟩:=andB_ok h;let ⟨q,h⟩:=andB_ok h;let ⟨r,t⟩:=andB_ok h;⟨p,q,r,t⟩
    rcases hn with rfl | rfl | rfl <;> rcases hk with rfl | rfl | rfl | rfl
    · exact (four cl1).1
    · exact (four cl1).2.1
    · exact (four cl1).2.2.1
    · exact (four cl1).2.2.2
    · exact (four cl2).1
    · exact (four cl2).2.1
    · exact (four cl2).2.2.1
    · exact (four cl2).2.2.2
    · exact (four cl3).1
    · exact (four cl3).2.1
    · exact (four cl3).2.2.1
    · exact (four cl3).2.2.2
  kind:=fun x hx=>allB_ok ck x hx
end Mine
end
end
section
set_option Elab.async true
set_option maxHeartbeats 0
namespace Mine
noncomputable def looseQ:List PySem.Str:=[(PySem.Str.ofString "_wall"),(PySem.Str.ofString "net_kinds"),(PySem.Str.ofString "Signal"),(PySem.Str.ofString "AssignDef"),(PySem.Str.ofString "GateDef"),(PySem.Str.ofString "Design"),(PySem.Str.ofString "GateloomError"),(PySem.Str.ofString "DesignError"),(PySem.Str.ofString "LimitReached"),(PySem.Str.ofString "mask"),(PySem.Str.ofString "vec"),(PySem.Str.ofString "zeros"),(PySem.Str.ofString "all_x"),(PySem.Str.ofString "all_z"),(PySem.Str.ofString "from_int"),(PySem.Str.ofString "is_known"),(PySem.Str.ofString "to_int"),(PySem.Str.ofString "code"),(PySem.Str.ofString "slice_vec"),(PySem.Str.ofString "put_slice"),(PySem.Str.ofString "concat"),(PySem.Str.ofString "extend"),(PySem.Str.ofString "z_to_x"),(PySem.Str.ofString "truth"),(PySem.Str.ofString "Store"),(PySem.Str.ofString "Context"),(PySem.Str.ofString "add"),(PySem.Str.ofString "sub"),(PySem.Str.ofString "mul"),(PySem.Str.ofString "neg"),(PySem.Str.ofString "quotient"),(PySem.Str.ofString "div"),(PySem.Str.ofString "mod"),(PySem.Str.ofString "raise_whole"),(PySem.Str.ofString "power"),(PySem.Str.ofString "shift_left"),(PySem.Str.ofString "shift_right"),(PySem.Str.ofString "shift_arith"),(PySem.Str.ofString "ordered"),(PySem.Str.ofString "less"),(PySem.Str.ofString "less_equal"),(PySem.Str.ofString "greater"),(PySem.Str.ofString "greater_equal"),(PySem.Str.ofString "one_bit"),(PySem.Str.ofString "one_bit_vecops"),(PySem.Str.ofString "bit_not"),(PySem.Str.ofString "bit_and"),(PySem.Str.ofString "bit_or"),(PySem.Str.ofString "bit_xor"),(PySem.Str.ofString "bit_xnor"),(PySem.Str.ofString "reduce_and"),(PySem.Str.ofString "reduce_nand"),(PySem.Str.ofString "reduce_or"),(PySem.Str.ofString "reduce_nor"),(PySem.Str.ofString "reduce_xor"),(PySem.Str.ofString "reduce_xnor"),(PySem.Str.ofString "logic_not"),(PySem.Str.ofString "logic_and"),(PySem.Str.ofString "logic_or"),(PySem.Str.ofString "equal"),(PySem.Str.ofString "not_equal"),(PySem.Str.ofString "case_equal"),(PySem.Str.ofString "case_not_equal"),(PySem.Str.ofString "matches"),(PySem.Str.ofString "choose"),(PySem.Str.ofString "unary"),(PySem.Str.ofString "arithmetic"),(PySem.Str.ofString "comparison"),(PySem.Str.ofString "bitwise"),(PySem.Str.ofString "binary"),(PySem.Str.ofString "whole_of"),(PySem.Str.ofString "memory_word"),(PySem.Str.ofString "picked"),(PySem.Str.ofString "conditional"),(PySem.Str.ofString "bits_needed"),(PySem.Str.ofString "system_value"),(PySem.Str.ofString "system_value_evaluate"),(PySem.Str.ofString "evaluate"),(PySem.Str.ofString "locate"),(PySem.Str.ofString "holder_width"),(PySem.Str.ofString "resolve_target"),(PySem.Str.ofString "store_rows"),(PySem.Str.ofString "DEPTH_LIMIT"),(PySem.Str.ofString "FunctionContext"),(PySem.Str.ofString "run_block"),(PySem.Str.ofString "run_set"),(PySem.Str.ofString "run_case"),(PySem.Str.ofString "run_while"),(PySem.Str.ofString "run_repeat"),(PySem.Str.ofString "run_for"),(PySem.Str.ofString "run_statement"),(PySem.Str.ofString "children"),(PySem.Str.ofString "subexpressions"),(PySem.Str.ofString "expr_reads"),(PySem.Str.ofString "expr_calls"),(PySem.Str.ofString "target_indexes"),(PySem.Str.ofString "target_writes"),(PySem.Str.ofString "stmt_parts"),(PySem.Str.ofString "substatements"),(PySem.Str.ofString "stmt_targets"),(PySem.Str.ofString "stmt_exprs"),(PySem.Str.ofString "stmt_reads"),(PySem.Str.ofString "stmt_writes"),(PySem.Str.ofString "stmt_calls"),(PySem.Str.ofString "MAX_WIDTH"),(PySem.Str.ofString "last_select"),(PySem.Str.ofString "is_memory"),(PySem.Str.ofString "shape"),(PySem.Str.ofString "read_entry"),(PySem.Str.ofString "folds"),(PySem.Str.ofString "folded"),(PySem.Str.ofString "checked_width"),(PySem.Str.ofString "selected"),(PySem.Str.ofString "text_vec"),(PySem.Str.ofString "inner_join"),(PySem.Str.ofString "is_context_operator"),(PySem.Str.ofString "is_shift"),(PySem.Str.ofString "widen"),(PySem.Str.ofString "number_value"),(PySem.Str.ofString "is_constant"),(PySem.Str.ofString "path_names"),(PySem.Str.ofString "entry_of"),(PySem.Str.ofString "base_entry"),(PySem.Str.ofString "select_width"),(PySem.Str.ofString "select_where"),(PySem.Str.ofString "named_type"),(PySem.Str.ofString "named_value"),(PySem.Str.ofString "function_of"),(PySem.Str.ofString "call_value"),(PySem.Str.ofString "system_type"),(PySem.Str.ofString "system_value_elabexpr"),(PySem.Str.ofString "joined_parts"),(PySem.Str.ofString "copies"),(PySem.Str.ofString "joined_width"),(PySem.Str.ofString "joined_value"),(PySem.Str.ofString "both_types"),(PySem.Str.ofString "expr_type"),(PySem.Str.ofString "unary_value"),(PySem.Str.ofString "binary_value"),(PySem.Str.ofString "build"),(PySem.Str.ofString "self_determined"),(PySem.Str.ofString "sized"),(PySem.Str.ofString "constant_vec"),(PySem.Str.ofString "constant"),(PySem.Str.ofString "whole"),(PySem.Str.ofString "flat_parts"),(PySem.Str.ofString "check_entry"),(PySem.Str.ofString "target_part"),(PySem.Str.ofString "target"),(PySem.Str.ofString "moved"),(PySem.Str.ofString "slice_target"),(PySem.Str.ofString "one_bit_elablv"),(PySem.Str.ofString "one_bit_target"),(PySem.Str.ofString "default_strength"),(PySem.Str.ofString "delay_values"),(PySem.Str.ofString "piece_place"),(PySem.Str.ofString "value_bit"),(PySem.Str.ofString "target_bit"),(PySem.Str.ofString "output_count"),(PySem.Str.ofString "make_gate"),(PySem.Str.ofString "matched_connections"),(PySem.Str.ofString "whole_target"),(PySem.Str.ofString "input_assign"),(PySem.Str.ofString "output_assign"),(PySem.Str.ofString "Scope"),(PySem.Str.ofString "_law_row"),(PySem.Str.ofString "_law_next"),(PySem.Str.ofString "_law_bits"),(PySem.Str.ofString "_law_made"),(PySem.Str.ofString "_law_kept"),(PySem.Str.ofString "_law_matched"),(PySem.Str.ofString "_law_outputs"),(PySem.Str.ofString "_law_stored")]
theorem chains:chainsOk viewQ = true:=by decide +kernel
theorem opens:opensWell PySem.Challenge.pw_ok0101_01 = true:=by decide +kernel
theorem freesr:(frees PySem.Challenge.rw_ok0101_01.row.toRowW && PySem.Challenge.rw_ok0101_01.row.toRowW.within.isEmpty) = true:=by decide +kernel
theorem oks:(chainsOk viewQ && opensWell PySem.Challenge.rw_ok0101_01.row.prog && (frees PySem.Challenge.rw_ok0101_01.row.toRowW && PySem.Challenge.rw_ok0101_01.row.toRowW.within.isEmpty)) = true:=look_both (look_both chains opens) freesr
theorem hd.tw3909279162131401856:True:=trivial
theorem hd.tw2038074135623757056:True:=trivial
theorem hd.tw5786420119611251456:True:=trivial
theorem hd.tw9955209858657692705:True:=trivial
theorem hd.tw1869531088497084641:True:=trivial
theorem hd.tw3864843757460799747:True:=trivial
theorem hd.tw5802308918014334467:True:=trivial
theorem hd.tw17566722767392897667:True:=trivial
theorem hd.tw14419116458854302757:True:=trivial
theorem hd.tw5107316007074341285:True:=trivial
theorem hd.tw6622621390060796453:True:=trivial
theorem hd.tw5268376606809103941:True:=trivial
theorem hd.tw10613586106871329381:True:=trivial
theorem hd.tw8849046942124927877:True:=trivial
theorem hd.tw18414764529967284870:True:=trivial
theorem hd.tw3039998526598829958:True:=trivial
theorem hd.tw7294075314067506599:True:=trivial
theorem hd.tw4467709538675631592:True:=trivial
theorem hd.tw5183643059803768456:True:=trivial
theorem hd.tw4469713195409530889:True:=trivial
theorem hd.tw667777408057656426:True:=trivial
theorem hd.tw17678377880832513930:True:=trivial
theorem hd.tw8650977682594302123:True:=trivial
theorem hd.tw8799883659295210123:True:=trivial
theorem hd.tw3610496823649695659:True:=trivial
theorem hd.tw2478488760367284492:True:=trivial
theorem hd.tw15990741470632014444:True:=trivial
theorem hd.tw12229010590320277965:True:=trivial
theorem hd.tw16213748851167669294:True:=trivial
theorem hd.tw8732188552807035984:True:=trivial
theorem hd.tw11717752133084529616:True:=trivial
theorem hd.tw14004260572845733393:True:=trivial
theorem hd.tw4049167362943961905:True:=trivial
theorem hd.tw779136966391866353:True:=trivial
theorem hd.tw9321989013662472050:True:=trivial
theorem hd.tw406836984532346738:True:=trivial
theorem hd.tw6173541916678576371:True:=trivial
theorem hd.tw5808931258042189139:True:=trivial
theorem hd.tw7935466954021709139:True:=trivial
theorem hd.tw7135375499430469523:True:=trivial
theorem hd.tw6656706159465290804:True:=trivial
theorem hd.tw12681725875008307348:True:=trivial
theorem hd.tw8741637292732587252:True:=trivial
theorem hd.tw1933702417171660692:True:=trivial
theorem hd.tw5634249674695799605:True:=trivial
theorem hd.tw15320221400302559415:True:=trivial
theorem hd.tw1505947169401259447:True:=trivial
theorem hd.tw12322772790019986935:True:=trivial
theorem hd.tw953432450681559161:True:=trivial
theorem hd.tw15389965777483919546:True:=trivial
theorem hd.tw10116813279655377562:True:=trivial
theorem hd.tw9478844844750915290:True:=trivial
theorem hd.tw7203090732872221147:True:=trivial
theorem hd.tw11646996269610125500:True:=trivial
theorem hd.tw15352081997341112220:True:=trivial
theorem hd.tw1905405397951419166:True:=trivial
theorem hd.tw1494730599685459391:True:=trivial
theorem hd.tw8002969147516199903:True:=trivial
theorem hd.tw15361844209890540735:True:=trivial
theorem hd.tw14189342980343032745:True:=trivial
theorem hd.tw10026777125879992224:True:=trivial
theorem hd.tw17143746779515762356:True:=trivial
theorem hd.tw11407884054146074569:True:=trivial
theorem hd.tw1335065189686863947:True:=trivial
theorem hd.tw4212396358401106430:True:=trivial
theorem hd.tw3530251461782974795:True:=trivial
theorem hd.tw15634565183472343292:True:=trivial
theorem hd.tw18095200977026478895:True:=trivial
theorem hd.tw8210421348078903774:True:=trivial
theorem hd.tw6615107907471364465:True:=trivial
theorem hd.tw6761669909254768831:True:=trivial
theorem hd.tw4068527845204499245:True:=trivial
theorem hd.tw8965841893048198262:True:=trivial
theorem hd.tw11663481321943121269:True:=trivial
theorem hd.tw3350930974749635488:True:=trivial
theorem hd.tw12602439190401603521:True:=trivial
theorem hd.tw1744074299117110578:True:=trivial
theorem hd.tw3504079246686126755:True:=trivial
theorem hd.tw4186180820073840449:True:=trivial
theorem hd.tw37099724090138251:True:=trivial
theorem hd.tw13840357560478945406:True:=trivial
theorem hd.tw13937860266046166849:True:=trivial
theorem hd.tw17992175057805443440:True:=trivial
theorem hd.tw15084132493965779093:True:=trivial
theorem hd.tw3533295568840377906:True:=trivial
theorem hd.tw2562236817408797766:True:=trivial
theorem hd.tw2770886237722202814:True:=trivial
theorem hd.tw12487542160262675636:True:=trivial
theorem hd.tw16173144727172801181:True:=trivial
theorem hd.tw18152756486534528934:True:=trivial
theorem hd.tw16794629799341752650:True:=trivial
theorem hd.tw7076163891533521732:True:=trivial
theorem hd.tw9429285754427346401:True:=trivial
theorem hd.tw6848782300941138395:True:=trivial
theorem hd.tw3513125359445811510:True:=trivial
theorem hd.tw5927567313105069670:True:=trivial
theorem hd.tw6184460063843016694:True:=trivial
theorem hd.tw7175568609137494628:True:=trivial
theorem hd.tw1379335367625716243:True:=trivial
theorem hd.tw13092906067662860646:True:=trivial
theorem hd.tw13866372431405929976:True:=trivial
theorem hd.tw2004659784336800654:True:=trivial
theorem hd.tw4091639524402994376:True:=trivial
theorem hd.tw16009884308244765898:True:=trivial
theorem hd.tw7941745277869089046:True:=trivial
theorem hd.tw11984409736253958808:True:=trivial
theorem hd.tw10203026625882799534:True:=trivial
theorem hd.tw9155422001095189878:True:=trivial
theorem hd.tw3069179008743571320:True:=trivial
theorem hd.tw6014424301940151174:True:=trivial
theorem hd.tw3484992998616243462:True:=trivial
theorem hd.tw15931116738044738221:True:=trivial
theorem hd.tw13365295217650922812:True:=trivial
theorem hd.tw14667805832236412624:True:=trivial
theorem hd.tw16409295683739894939:True:=trivial
theorem hd.tw825126770350376351:True:=trivial
theorem hd.tw4432475053497693458:True:=trivial
theorem hd.tw4424954536736003961:True:=trivial
theorem hd.tw8502394832462711535:True:=trivial
theorem hd.tw5363428345988834438:True:=trivial
theorem hd.tw3419581819265744254:True:=trivial
theorem hd.tw12952509933414984302:True:=trivial
theorem hd.tw18205439006774131303:True:=trivial
theorem hd.tw4735155535324382492:True:=trivial
theorem hd.tw16640546478005224243:True:=trivial
theorem hd.tw2729298822523640997:True:=trivial
theorem hd.tw7289601568589263668:True:=trivial
theorem hd.tw17312975722139092705:True:=trivial
theorem hd.tw6697089970055633809:True:=trivial
theorem hd.tw3480344400806313460:True:=trivial
theorem hd.tw1208734638264122097:True:=trivial
theorem hd.tw4125931394999656194:True:=trivial
theorem hd.tw6506366617586733335:True:=trivial
theorem hd.tw3429492842335990350:True:=trivial
theorem hd.tw14776966858535155947:True:=trivial
theorem hd.tw6965799899956892507:True:=trivial
theorem hd.tw6598312636042714100:True:=trivial
theorem hd.tw14440960662653809013:True:=trivial
theorem hd.tw15673258824015622330:True:=trivial
theorem hd.tw7792395482447073224:True:=trivial
theorem hd.tw12103701333906454223:True:=trivial
theorem hd.tw5009564483982726761:True:=trivial
theorem hd.tw8821865126269305972:True:=trivial
theorem hd.tw10947331860392259696:True:=trivial
theorem hd.tw4527685146903026889:True:=trivial
theorem hd.tw10904933031377857372:True:=trivial
theorem hd.tw12659318050587179527:True:=trivial
theorem hd.tw9228397985900620932:True:=trivial
theorem hd.tw3405361230339686725:True:=trivial
theorem hd.tw7068711184596962023:True:=trivial
theorem hd.tw15852365999677673905:True:=trivial
theorem hd.tw4768578896829404305:True:=trivial
theorem hd.tw313027258313007627:True:=trivial
theorem hd.tw5075868867736424536:True:=trivial
theorem hd.tw15813434630575017362:True:=trivial
theorem hd.tw4478964076566166474:True:=trivial
theorem hd.tw17183224562656869120:True:=trivial
theorem hd.tw578887228443019578:True:=trivial
theorem hd.tw13780077144873983122:True:=trivial
theorem hd.tw15677629932584476913:True:=trivial
theorem hd.tw7191455744419660376:True:=trivial
theorem hd.tw15946356160694317329:True:=trivial
theorem hd.tw13463106324228987060:True:=trivial
theorem hd.tw5490696432328200686:True:=trivial
theorem hd.tw7829580234814923638:True:=trivial
theorem hd.tw4948343613671549106:True:=trivial
theorem hd.tw5511420028821071320:True:=trivial
theorem hd.tw7023726343779634624:True:=trivial
theorem hd.tw4581847759332874082:True:=trivial
theorem hd.tw1486704645508227577:True:=trivial
theorem hd.tw13239904802401495117:True:=trivial
theorem hd.tw7702882491108231240:True:=trivial
theorem hd.tw9420132969298855359:True:=trivial
theorem hd.tw8197050154876552520:True:=trivial
theorem hd.tw1589133516308662214:True:=trivial
theorem hd.tw12271959270614036898:True:=trivial
theorem hd.tw6052482589124101219:True:=trivial
theorem hd.tw1256466517863071783:True:=trivial
theorem hd.tw11942693397608355085:True:=trivial
theorem hd.tw8293946417935249925:True:=trivial
theorem hd.tw13825103770533428167:True:=trivial
theorem hd.tw13096558090100123544:True:=trivial
theorem hd.tw14577976968632240088:True:=trivial
theorem hd.tw243823211424636713:True:=trivial
theorem hd.tw18235018827726667335:True:=trivial
theorem hd.tw8538877666451538035:True:=trivial
theorem hd.tw7510230149288206974:True:=trivial
theorem hd.tw17454471701868102899:True:=trivial
theorem hd.tw10778013660560245624:True:=trivial
theorem hd.tw14698123526113890222:True:=trivial
theorem hd.tw12350410155528471161:True:=trivial
theorem hd.tw5303882286802505687:True:=trivial
theorem hd.tw14984183105004643987:True:=trivial
theorem hd.tw11595982170579460384:True:=trivial
theorem hd.tw12521463284412890351:True:=trivial
theorem hd.tw12900700647772717614:True:=trivial
theorem hd.tw12254263087357419629:True:=trivial
theorem hd.tw7369741819223213686:True:=trivial
theorem hd.tw13188104715197074476:True:=trivial
theorem hd.tw4015398097383911347:True:=trivial
theorem hd.tw6412770499399676944:True:=trivial
theorem hd.tw3418235910006150233:True:=trivial
theorem hd.tw17070941380808615275:True:=trivial
theorem hd.tw6547078798241139092:True:=trivial
theorem hd.tw1652104869958991592:True:=trivial
theorem hd.tw9748044761591592747:True:=trivial
theorem hd.tw3139860346522395057:True:=trivial
theorem hd.tw16823583209533085739:True:=trivial
theorem hd.tw15199589371867527261:True:=trivial
theorem hd.tw9398405308114057262:True:=trivial
theorem hd.tw16255831979728675032:True:=trivial
theorem hd.tw13532847315355080253:True:=trivial
theorem hd.tw10024716035694756283:True:=trivial
theorem hd.tw13409441903868389331:True:=trivial
theorem hd.tw9533747618267967006:True:=trivial
theorem hd.tw13001811119718631651:True:=trivial
theorem hd.tw2839761810297210574:True:=trivial
theorem hd.tw7080932558258925280:True:=trivial
theorem hd.tw11814627755841444246:True:=trivial
theorem hd.tw5859118754885311737:True:=trivial
theorem hd.tw10919297434634762262:True:=trivial
theorem hd.tw5547500650982815111:True:=trivial
theorem hd.tw13368278939475635651:True:=trivial
theorem hd.tw14706022693812145444:True:=trivial
theorem hd.tw12861998865439983172:True:=trivial
theorem hd.tw16853515981168281661:True:=trivial
theorem hd.tw15923250282426842828:True:=trivial
theorem hd.tw16868993833207775613:True:=trivial
theorem hd.tw15337868472472888810:True:=trivial
theorem hd.tw2004683288701819805:True:=trivial
theorem hd.tw10286656452748174568:True:=trivial
theorem hd.tw12331051067403766639:True:=trivial
theorem hd.tw469108185253701220:True:=trivial
theorem hd.tw13342606739435360313:True:=trivial
theorem hd.tw18370931923303237609:True:=trivial
theorem hd.tw16149640692961023503:True:=trivial
theorem hd.tw2040990291671593033:True:=trivial
theorem hd.tw9262713555522148398:True:=trivial
theorem hd.tw11713075325732132258:True:=trivial
theorem hd.tw12872897951434832890:True:=trivial
theorem hd.tw13855946660403688772:True:=trivial
theorem hd.tw13172843250190940813:True:=trivial
theorem hd.tw15277330632498426303:True:=trivial
theorem hd.tw3649758429140192277:True:=trivial
theorem hd.tw16052320808349706082:True:=trivial
theorem hd.tw280609765759037681:True:=trivial
theorem hd.tw11631869004601391166:True:=trivial
theorem hd.tw4299596416071116603:True:=trivial
theorem hd.tw10905181550472923540:True:=trivial
theorem hd.tw10845626234925267891:True:=trivial
theorem hd.tw13770079208771991547:True:=trivial
theorem hd.tw17919194246423945575:True:=trivial
theorem hd.tw14120982254508448379:True:=trivial
theorem hd.tw870721082818037629:True:=trivial
theorem hd.tw17347436560843906493:True:=trivial
theorem hd.tw17950676927832955104:True:=trivial
theorem hd.tw13490871333126383818:True:=trivial
theorem hd.tw11472165163037031739:True:=trivial
theorem hd.tw17628472586750557451:True:=trivial
theorem hd.tw4734902545126651661:True:=trivial
theorem hd.tw3364418463632694928:True:=trivial
theorem hd.tw732586155322051499:True:=trivial
theorem hd.tw15790720579355451973:True:=trivial
theorem hd.tw12201216968780110852:True:=trivial
theorem hd.tw2304311442786299043:True:=trivial
theorem hd.tw2863928172549722007:True:=trivial
theorem hd.tw7006195865600381663:True:=trivial
theorem hd.tw17038178572684014812:True:=trivial
theorem hd.tw13458954166980676860:True:=trivial
theorem hd.tw6709418730364537143:True:=trivial
theorem hd.tw11079593142295127227:True:=trivial
theorem hd.tw16464424236575238572:True:=trivial
theorem hd.tw9781786331797747800:True:=trivial
theorem hd.tw12995909851351757392:True:=trivial
theorem hd.tw12976186185376257304:True:=trivial
theorem hd.tw574300837803046910:True:=trivial
theorem hd.tw5322579261384874668:True:=trivial
theorem hd.tw8053944837975664402:True:=trivial
theorem hd.tw13262116225945230012:True:=trivial
theorem hd.tw6669269137521125552:True:=trivial
theorem hd.tw15033227074091944939:True:=trivial
theorem hd.tw13051953538815563581:True:=trivial
theorem hd.tw9627790493946171768:True:=trivial
theorem hd.tw18300207936620678264:True:=trivial
theorem hd.tw3196170801527574987:True:=trivial
theorem hd.tw12053362261382060752:True:=trivial
theorem hd.tw8912348807662434688:True:=trivial
theorem hd.tw16345102440705955213:True:=trivial
theorem hd.tw16605896050852369192:True:=trivial
theorem hd.tw7598622570094877466:True:=trivial
theorem hd.tw17172931820748874959:True:=trivial
theorem hd.tw5289708365253275695:True:=trivial
theorem hd.tw10170382586518783626:True:=trivial
theorem hd.tw2783992281797965187:True:=trivial
theorem hd.tw11893437276241958245:True:=trivial
theorem hd.tw1157804721814978856:True:=trivial
theorem hd.tw15967140613478806237:True:=trivial
theorem hd.tw728884934406724761:True:=trivial
theorem hd.tw6352655612330318208:True:=trivial
theorem hd.tw2951005344575393816:True:=trivial
theorem hd.tw11237167707397388024:True:=trivial
theorem hd.tw18203504233945503714:True:=trivial
theorem hd.tw17737187407176874954:True:=trivial
theorem hd.tw11801993109049149486:True:=trivial
theorem hd.tw6442067068224118133:True:=trivial
theorem hd.tw13671756088133313087:True:=trivial
theorem hd.tw13483081372092288885:True:=trivial
theorem hd.tw2394040479862359591:True:=trivial
theorem hd.tw6957150274394394060:True:=trivial
theorem hd.tw3029179668187146391:True:=trivial
theorem hd.tw16133100035791441351:True:=trivial
theorem hd.tw439464058936774774:True:=trivial
theorem hd.tw10819331528351526247:True:=trivial
theorem hd.tw5961118342813265553:True:=trivial
theorem hd.tw10216474801634566288:True:=trivial
theorem hd.tw7793673504863384051:True:=trivial
theorem hd.tw17076082267592564974:True:=trivial
theorem hd.tw13011413612017729677:True:=trivial
theorem hd.tw718029691902183412:True:=trivial
theorem hd.tw13038990169509382042:True:=trivial
theorem hd.tw15618049606547972131:True:=trivial
theorem hd.tw6305734824756694309:True:=trivial
theorem hd.tw17386561741084979693:True:=trivial
theorem hd.tw12727495553239364174:True:=trivial
theorem hd.tw2900905267640511130:True:=trivial
theorem hd.tw14135609715661531928:True:=trivial
theorem hd.tw8609351116199087170:True:=trivial
theorem hd.tw17562767543260142214:True:=trivial
theorem hd.tw3493717111155160527:True:=trivial
theorem hd.tw10944956837784636368:True:=trivial
theorem hd.tw8381844023166312768:True:=trivial
theorem hd.tw9753359207989701909:True:=trivial
theorem hd.tw6679266806504041263:True:=trivial
theorem hd.tw8269573656231971908:True:=trivial
theorem hd.tw6545403380812914513:True:=trivial
theorem hd.tw9427301549700849589:True:=trivial
theorem hd.tw6663896369628448293:True:=trivial
theorem hd.tw573411949849455007:True:=trivial
theorem hd.tw2114630138375439770:True:=trivial
theorem hd.tw6276725880618359904:True:=trivial
theorem hd.tw9132557439983319658:True:=trivial
theorem hd.tw13790719812936386609:True:=trivial
theorem hd.tw8773699223549846113:True:=trivial
theorem hd.tw4159134105002834734:True:=trivial
theorem hd.tw7270182246851987180:True:=trivial
theorem hd.tw6320253292602491972:True:=trivial
theorem hd.tw9741134391959003819:True:=trivial
theorem hd.tw1535757262459896012:True:=trivial
theorem hd.tw14810379563594542694:True:=trivial
theorem hd.tw15889433306838628275:True:=trivial
theorem hd.tw8450674356893351874:True:=trivial
theorem hd.tw7867956165831070988:True:=trivial
theorem hd.tw11415386828835887437:True:=trivial
theorem hd.tw13759995583405993703:True:=trivial
theorem hd.tw11709330566771433103:True:=trivial
theorem hd.tw17795420018806894357:True:=trivial
theorem hd.tw8960069828448710407:True:=trivial
theorem hd.tw7372000682148998216:True:=trivial
theorem hd.tw10595968288072337780:True:=trivial
theorem hd.tw15837987909243819085:True:=trivial
theorem hd.tw5464280966869935822:True:=trivial
theorem hd.tw16227762859984022837:True:=trivial
theorem hd.tw17336936450418997793:True:=trivial
theorem hd.tw11232374478483605306:True:=trivial
theorem hd.tw500953250457666378:True:=trivial
theorem hd.tw6767318904944593275:True:=trivial
theorem hd.tw6482722132109649516:True:=trivial
theorem hd.tw13747817723492736564:True:=trivial
theorem hd.tw9731375825926819010:True:=trivial
theorem hd.tw2042874687063273074:True:=trivial
theorem hd.tw7317836474542784337:True:=trivial
theorem hd.tw4363365295628954845:True:=trivial
theorem hd.tw13285133528070534704:True:=trivial
theorem hd.tw9702936160620672325:True:=trivial
theorem hd.tw14598272352848978880:True:=trivial
theorem hd.tw1382963296337349011:True:=trivial
theorem hd.tw16853252838358632063:True:=trivial
theorem hd.tw16896567674234606475:True:=trivial
theorem hd.tw8428860471423672150:True:=trivial
theorem hd.tw16211521421427940678:True:=trivial
theorem hd.tw14896477498954680388:True:=trivial
theorem hd.tw2457190517430149469:True:=trivial
theorem hd.tw6982297934935202809:True:=trivial
theorem hd.tw15643275761693703936:True:=trivial
theorem hd.tw3608708970678896270:True:=trivial
theorem hd.tw16713699803418581334:True:=trivial
theorem hd.tw5420774739373220312:True:=trivial
theorem hd.tw4126306136578151734:True:=trivial
theorem hd.tw5138769234217329475:True:=trivial
theorem hd.tw11507959949525687343:True:=trivial
theorem hd.tw18093812233618175256:True:=trivial
theorem hd.tw7085514621470718492:True:=trivial
theorem hd.tw6423634429210846174:True:=trivial
theorem hd.tw7339039647409124788:True:=trivial
theorem hd.tw16259696140248634718:True:=trivial
theorem hd.tw12565835363266740329:True:=trivial
theorem hd.tw2845679848157327705:True:=trivial
theorem hd.tw11841407262063887625:True:=trivial
theorem hd.tw1247026723315081023:True:=trivial
theorem hd.tw190519026028168232:True:=trivial
theorem hd.tw550829659697677876:True:=trivial
theorem hd.tw10259988299927297344:True:=trivial
theorem hd.tw8931695957890008076:True:=trivial
theorem hd.tw7578210074245671484:True:=trivial
theorem hd.tw17447410573909459338:True:=trivial
theorem hd.tw10905682514733158466:True:=trivial
theorem hd.tw2505046432360240130:True:=trivial
theorem hd.tw960944832710211464:True:=trivial
theorem hd.tw16064382804478563927:True:=trivial
theorem hd.tw13562760996464443880:True:=trivial
theorem hd.tw11151547217846952531:True:=trivial
theorem hd.tw1051681510052472703:True:=trivial
theorem hd.tw17739348878880393726:True:=trivial
theorem hd.tw2887051446865420828:True:=trivial
theorem hd.tw13217225542625558698:True:=trivial
theorem hd.tw17258206423299326598:True:=trivial
theorem hd.tw7854228177987924090:True:=trivial
theorem hd.tw16171809288044610508:True:=trivial
theorem hd.tw881544763273948857:True:=trivial
theorem hd.tw3434918251397683217:True:=trivial
theorem hd.tw8977460988437922124:True:=trivial
theorem hd.tw2450686747263038406:True:=trivial
theorem hd.tw4642405928176397000:True:=trivial
theorem hd.tw12023040214023829324:True:=trivial
theorem hd.tw16053994301053490033:True:=trivial
theorem hd.tw13466754112058979494:True:=trivial
theorem hd.tw16858285156579221889:True:=trivial
theorem hd.tw1088296927520436173:True:=trivial
theorem hd.tw16169374299450900766:True:=trivial
theorem hd.tw12195446991383753695:True:=trivial
theorem hd.tw15083628210047938546:True:=trivial
theorem hd.tw9013056391748086436:True:=trivial
theorem hd.tw17849003137439291346:True:=trivial
theorem hd.tw10465514089279642386:True:=trivial
theorem hd.tw17673860158736603733:True:=trivial
theorem hd.tw7654286748164834634:True:=trivial
theorem hd.tw17495340751864218003:True:=trivial
theorem hd.tw15411387601460861337:True:=trivial
theorem hd.tw15578025631644234493:True:=trivial
theorem hd.tw12676414471582705871:True:=trivial
theorem hd.tw2808349399557158395:True:=trivial
theorem hd.tw10264135568141901301:True:=trivial
theorem hd.tw2391449824757734642:True:=trivial
theorem hd.tw3789350110615891812:True:=trivial
theorem hd.tw8990313861142287110:True:=trivial
theorem hd.tw6060742912462422084:True:=trivial
theorem hd.tw12769127236821124696:True:=trivial
theorem hd.tw14176624398918483544:True:=trivial
theorem hd.tw7746578258024575070:True:=trivial
theorem hd.tw13330244855972007585:True:=trivial
theorem hd.tw6046454685291232161:True:=trivial
theorem hd.tw5976792059365374437:True:=trivial
theorem hd.tw4172343393113369950:True:=trivial
theorem hd.tw14029546391885035639:True:=trivial
theorem hd.tw10806950440038215891:True:=trivial
theorem hd.tw6931407450589930559:True:=trivial
theorem hd.tw8479784124755550697:True:=trivial
theorem hd.tw17668637344460488510:True:=trivial
theorem hd.tw7074851169733056584:True:=trivial
theorem hd.tw10491609206876299696:True:=trivial
theorem hd.tw14960593345356199642:True:=trivial
theorem hd.tw10752148897807903841:True:=trivial
theorem hd.tw10543509907540572799:True:=trivial
theorem hd.tw11587034568685482758:True:=trivial
theorem hd.tw12868520594928266513:True:=trivial
theorem hd.tw4136554803537287180:True:=trivial
theorem hd.tw2101469004524951375:True:=trivial
theorem hd.tw7379015992945566340:True:=trivial
theorem hd.tw11054480109507316185:True:=trivial
theorem hd.tw7815354588672045779:True:=trivial
theorem hd.tw701787995468756871:True:=trivial
theorem hd.tw8457440626546761165:True:=trivial
theorem hd.tw7927469264209771579:True:=trivial
theorem hd.tw8179070454071193570:True:=trivial
theorem hd.tw12578441467969060316:True:=trivial
theorem hd.tw12459740579856956213:True:=trivial
theorem hd.tw8343274005884668182:True:=trivial
theorem hd.tw5902613922787404954:True:=trivial
theorem hd.tw17042034404087940706:True:=trivial
theorem hd.tw12617484926136758311:True:=trivial
theorem hd.tw9557236495431379559:True:=trivial
theorem hd.tw442638132926106271:True:=trivial
theorem hd.tw12451100950165386860:True:=trivial
theorem hd.tw18293851220164018083:True:=trivial
theorem hd.tw5282504435634884242:True:=trivial
theorem hd.tw8652628183442184457:True:=trivial
theorem hd.tw1013155817946168525:True:=trivial
theorem hd.tw7512474625130614241:True:=trivial
theorem hd.tw12112201142124510154:True:=trivial
theorem hd.tw9499510787657705874:True:=trivial
theorem hd.tw7754304195085646258:True:=trivial
theorem hd.tw9421340871869096474:True:=trivial
theorem hd.tw17649441919526076750:True:=trivial
theorem hd.tw11162318198679636149:True:=trivial
theorem hd.tw4303197518546878200:True:=trivial
theorem hd.tw4111692666942324129:True:=trivial
theorem hd.tw663384727985864361:True:=trivial
theorem hd.tw12393119488966705847:True:=trivial
theorem hd.tw12614811148066621264:True:=trivial
theorem hd.tw9184186324627900627:True:=trivial
theorem hd.tw8015326511298524721:True:=trivial
theorem hd.tw7525542149764818722:True:=trivial
theorem hd.tw439843181053141970:True:=trivial
theorem hd.tw9960721518486171458:True:=trivial
theorem hd.tw13218659294841961345:True:=trivial
theorem hd.tw17843490464661113860:True:=trivial
theorem hd.tw17711083657039698284:True:=trivial
theorem hd.tw16722109127936396110:True:=trivial
theorem hd.tw16742648372681657963:True:=trivial
theorem hd.tw4402725079659364252:True:=trivial
theorem hd.tw5732804406350252772:True:=trivial
theorem hd.tw11364443708160879001:True:=trivial
theorem hd.tw16011055738799735888:True:=trivial
theorem hd.tw16006246977917349235:True:=trivial
theorem hd.tw8531993380330477603:True:=trivial
theorem hd.tw15508949281206285077:True:=trivial
theorem hd.tw15992342658441690333:True:=trivial
theorem hd.tw12453114486196615683:True:=trivial
theorem hd.tw13609717118414637909:True:=trivial
theorem hd.tw11402939732021071671:True:=trivial
theorem hd.tw9299316483162031394:True:=trivial
theorem hd.tw6216614200119509154:True:=trivial
theorem hd.tw8770659054964912022:True:=trivial
theorem hd.tw13372043803930879067:True:=trivial
theorem hd.tw922143313871775805:True:=trivial
theorem hd.tw2922222751358710265:True:=trivial
theorem hd.tw17574625026820762457:True:=trivial
theorem hd.tw12945869327102554373:True:=trivial
theorem hd.tw5206456813468324048:True:=trivial
theorem hd.tw17975533764899295144:True:=trivial
theorem hd.tw11389486352061984695:True:=trivial
theorem hd.tw6109525258741381055:True:=trivial
theorem hd.tw3452082135128663414:True:=trivial
theorem hd.tw3913528116038191188:True:=trivial
theorem hd.tw9345676750909349944:True:=trivial
theorem hd.tw10614716105012338702:True:=trivial
theorem hd.tw5148922909946612681:True:=trivial
theorem hd.tw518976864732996251:True:=trivial
theorem hd.tw561391293025646643:True:=trivial
theorem hd.tw1222794163293265305:True:=trivial
theorem hd.tw10949625832625181284:True:=trivial
theorem hd.tw5362516397382645915:True:=trivial
theorem hd.tw15642763164714097627:True:=trivial
theorem hd.tw17470177872615007328:True:=trivial
theorem hd.tw17062030032774818151:True:=trivial
theorem hd.tw13047593935725612058:True:=trivial
theorem hd.tw833173182276230429:True:=trivial
theorem hd.tw15382363220257267067:True:=trivial
theorem hd.tw22551697357593593:True:=trivial
theorem hd.tw656455966557771466:True:=trivial
theorem hd.tw8789358453043137523:True:=trivial
theorem hd.tw16536845064214698358:True:=trivial
theorem hd.tw9386895884608548742:True:=trivial
theorem hd.tw6196171512934965099:True:=trivial
theorem hd.tw2167537188350426706:True:=trivial
theorem hd.tw3085183777334472315:True:=trivial
theorem hd.tw5334465803284312953:True:=trivial
theorem hd.tw4958948430592982816:True:=trivial
theorem hd.tw16487816990975572028:True:=trivial
theorem hd.tw6759408015678561074:True:=trivial
theorem hd.tw432457690288141553:True:=trivial
theorem hd.tw6868836192036940282:True:=trivial
theorem hd.tw11136197038861592535:True:=trivial
theorem hd.tw4605659447877369497:True:=trivial
theorem hd.tw15615420239508185596:True:=trivial
theorem hd.tw12901994302517312135:True:=trivial
theorem hd.tw17714235663813219645:True:=trivial
theorem hd.tw4086058157674990017:True:=trivial
theorem hd.tw4360684699965382250:True:=trivial
theorem hd.tw18264374347568628810:True:=trivial
theorem hd.tw15381450162410889989:True:=trivial
theorem hd.tw12447509897640257713:True:=trivial
theorem hd.tw5416991563250132298:True:=trivial
theorem hd.tw9668070271662314458:True:=trivial
theorem hd.tw10784824025267889561:True:=trivial
theorem hd.tw12747056698307629718:True:=trivial
theorem hd.tw18343703819029505601:True:=trivial
theorem hd.tw2930668341846507884:True:=trivial
theorem hd.tw12779077293037269412:True:=trivial
theorem hd.tw8959176491354863721:True:=trivial
theorem hd.tw16870090452748662828:True:=trivial
theorem hd.tw12642813592246648485:True:=trivial
theorem hd.tw17930870258028551510:True:=trivial
theorem hd.tw1584506945513601688:True:=trivial
theorem hd.tw712733125156272447:True:=trivial
theorem hd.tw2011083257458950123:True:=trivial
theorem hd.tw9726439670489285605:True:=trivial
theorem hd.tw2580477087445282633:True:=trivial
theorem hd.tw10955317050725887447:True:=trivial
theorem hd.tw17732877472588451059:True:=trivial
theorem hd.tw13731112488569404088:True:=trivial
theorem hd.tw8735263284916673568:True:=trivial
theorem hd.tw9048539425550374019:True:=trivial
theorem hd.tw13206406409579783871:True:=trivial
theorem hd.tw12778418089203562962:True:=trivial
theorem hd.tw10678649693572172417:True:=trivial
theorem hd.tw16154546982801380032:True:=trivial
theorem hd.tw16795040122137113940:True:=trivial
theorem hd.tw16157073509204512506:True:=trivial
theorem hd.tw6374767894290048045:True:=trivial
theorem hd.tw15378359858306647822:True:=trivial
theorem hd.tw17902569758825723728:True:=trivial
theorem hd.tw5592821105494180994:True:=trivial
theorem hd.tw1820180628909398317:True:=trivial
theorem hd.tw13064122474441708322:True:=trivial
theorem hd.tw17696971302532935780:True:=trivial
theorem hd.tw7850187754069100156:True:=trivial
theorem hd.tw14743440263598761229:True:=trivial
theorem hd.tw2084507788549644732:True:=trivial
theorem hd.tw3911173418732280352:True:=trivial
theorem hd.tw10098268173465320503:True:=trivial
theorem hd.tw16661405048812198066:True:=trivial
theorem hd.tw1362751533348561449:True:=trivial
theorem hd.tw6819212343860736726:True:=trivial
theorem hd.tw9976723597467198900:True:=trivial
theorem hd.tw15963624873386084050:True:=trivial
theorem hd.tw16970440968685349367:True:=trivial
theorem hd.tw17655025648336401564:True:=trivial
theorem hd.tw18358800413957953924:True:=trivial
theorem hd.tw1563692795949630186:True:=trivial
theorem hd.tw11248203148988284874:True:=trivial
theorem hd.tw12211380539166087753:True:=trivial
theorem hd.tw6693220840876725470:True:=trivial
theorem hd.tw1448358952932078338:True:=trivial
theorem hd.tw15610959940260225430:True:=trivial
theorem hd.tw7540741092611519060:True:=trivial
theorem hd.tw11011131195910976488:True:=trivial
theorem hd.tw12058812876911547015:True:=trivial
theorem hd.tw4355604671862981090:True:=trivial
theorem hd.tw14914937398881237230:True:=trivial
theorem hd.tw18087722134493236510:True:=trivial
theorem hd.tw12685813987229840507:True:=trivial
theorem hd.tw4819202231147424091:True:=trivial
theorem hd.tw1287958475656056414:True:=trivial
theorem hd.tw8081886968326746073:True:=trivial
theorem hd.tw541196102884509978:True:=trivial
theorem hd.tw2448417245163862455:True:=trivial
theorem hd.tw16156708551869547534:True:=trivial
theorem hd.tw2315468765258864358:True:=trivial
theorem hd.tw2598446214317162929:True:=trivial
theorem hd.tw1331086792558400476:True:=trivial
theorem hd.tw6877226645827823821:True:=trivial
theorem hd.tw16376525773666504680:True:=trivial
theorem hd.tw10404513684093684653:True:=trivial
theorem hd.tw617508947420966582:True:=trivial
theorem hd.tw12035623454917710897:True:=trivial
theorem hd.tw3333446698644548216:True:=trivial
theorem hd.tw7640094616464845771:True:=trivial
theorem hd.tw15630680890609703042:True:=trivial
theorem hd.tw4867443594122359892:True:=trivial
theorem hd.tw10031445930688152421:True:=trivial
theorem hd.tw14492701947808656938:True:=trivial
theorem hd.tw3088336149111003398:True:=trivial
theorem hd.tw155142512498542641:True:=trivial
theorem hd.tw7399621439246259153:True:=trivial
theorem hd.tw14889214211474231398:True:=trivial
theorem hd.tw15424705756172794927:True:=trivial
theorem hd.tw9312999139381119592:True:=trivial
theorem hd.tw5189956158058943387:True:=trivial
theorem hd.tw16301592386811335294:True:=trivial
theorem hd.tw11734085652529622713:True:=trivial
theorem hd.tw2739504486584576224:True:=trivial
theorem hd.tw546821695630378048:True:=trivial
theorem hd.tw9577689765879766989:True:=trivial
theorem hd.tw845060206244984605:True:=trivial
theorem hd.tw1865391376527767206:True:=trivial
theorem hd.tw6186238094035137676:True:=trivial
theorem hd.tw102014493982917126:True:=trivial
theorem hd.tw6199765714743212253:True:=trivial
theorem hd.tw17130151131035750659:True:=trivial
theorem hd.tw5306076463120387019:True:=trivial
theorem hd.tw250903467453971090:True:=trivial
theorem hd.tw7152984921513172624:True:=trivial
theorem hd.tw10102539355485613405:True:=trivial
theorem hd.tw14151535006965253332:True:=trivial
theorem hd.tw4182648748547736412:True:=trivial
theorem hd.tw1043307727769730188:True:=trivial
theorem hd.tw9012836324853574702:True:=trivial
theorem hd.tw17772917993097084435:True:=trivial
theorem hd.tw11629707937479629763:True:=trivial
theorem hd.tw1184127607605381967:True:=trivial
theorem hd.tw7657299143145469618:True:=trivial
theorem hd.tw4292457097857839397:True:=trivial
theorem hd.tw4643362625855044894:True:=trivial
theorem hd.tw1736311965527578767:True:=trivial
theorem hd.tw10273187271170590260:True:=trivial
theorem hd.tw11729958736954745289:True:=trivial
theorem hd.tw9258712216579463092:True:=trivial
theorem hd.tw6830512106363814048:True:=trivial
theorem hd.tw9170477692918782315:True:=trivial
theorem hd.tw10738003575532504788:True:=trivial
theorem hd.tw3496965988886986938:True:=trivial
theorem hd.tw10787125048147943196:True:=trivial
theorem hd.tw5464967688985200232:True:=trivial
theorem hd.tw15001097145646765096:True:=trivial
theorem hd.tw13929354066492186541:True:=trivial
theorem hd.tw9854592784775465947:True:=trivial
theorem hd.tw11832316714811090305:True:=trivial
theorem hd.tw1005483496087919985:True:=trivial
theorem hd.tw1098510452882186669:True:=trivial
theorem hd.tw13585648185636399713:True:=trivial
theorem hd.tw6898005170327248138:True:=trivial
theorem hd.tw14772383043592177042:True:=trivial
theorem hd.tw8898355551111435312:True:=trivial
theorem hd.tw9853226902798595589:True:=trivial
theorem hd.tw7626941382939369770:True:=trivial
theorem hd.tw14567429538950270057:True:=trivial
theorem hd.tw9935550417157453144:True:=trivial
theorem hd.tw7081294716157063915:True:=trivial
theorem hd.tw5549315172176941698:True:=trivial
theorem hd.tw5899666649113621702:True:=trivial
theorem hd.tw5643178794243155062:True:=trivial
theorem hd.tw1144496826038529397:True:=trivial
theorem hd.tw4383666589626881386:True:=trivial
theorem hd.tw1870067075039425230:True:=trivial
theorem hd.tw12353913968525425643:True:=trivial
theorem hd.tw10283529075043463162:True:=trivial
theorem hd.tw14579804019780415049:True:=trivial
theorem hd.tw16759147789766475008:True:=trivial
theorem hd.tw17491317419825422843:True:=trivial
theorem hd.tw2608437505485318709:True:=trivial
theorem hd.tw16441392401534740728:True:=trivial
theorem hd.tw13280443560766958183:True:=trivial
theorem hd.tw5516785719162176838:True:=trivial
theorem hd.tw5283464899586487735:True:=trivial
theorem hd.tw1557243174674812401:True:=trivial
theorem hd.tw12509009523430927325:True:=trivial
theorem hd.tw6990203504111849199:True:=trivial
theorem hd.tw876933089483189297:True:=trivial
theorem hd.tw9864973744126774698:True:=trivial
theorem hd.tw2489000522355961661:True:=trivial
theorem hd.tw4315991029959535628:True:=trivial
theorem hd.tw7185752278333246451:True:=trivial
theorem hd.tw16246848685605474055:True:=trivial
theorem hd.tw12418435599462062936:True:=trivial
theorem hd.tw13642289790063256904:True:=trivial
theorem hd.tw12113243949977362033:True:=trivial
theorem hd.tw8311865607074365958:True:=trivial
theorem hd.tw8545014587354053640:True:=trivial
theorem hd.tw12940713784782232206:True:=trivial
theorem hd.tw7153062008950511462:True:=trivial
theorem hd.tw2323474266016966308:True:=trivial
theorem hd.tw13217827037086042188:True:=trivial
theorem hd.tw8228950375871286339:True:=trivial
theorem hd.tw3922637787740509324:True:=trivial
theorem hd.tw17583924267553061668:True:=trivial
theorem hd.tw14560493823538711346:True:=trivial
theorem hd.tw5167245352685981253:True:=trivial
theorem hd.tw212345690472687942:True:=trivial
theorem hd.tw5667655126489319660:True:=trivial
theorem hd.tw12629568148972539762:True:=trivial
theorem hd.tw2658526732547218105:True:=trivial
theorem hd.tw7898215921889874393:True:=trivial
theorem hd.tw18160293313031310949:True:=trivial
theorem hd.tw9983964734214183352:True:=trivial
theorem hd.tw9153386212771759811:True:=trivial
theorem hd.tw16957190012819468567:True:=trivial
theorem hd.tw526207354791536317:True:=trivial
theorem hd.tw14400467628812073631:True:=trivial
theorem hd.tw5850991567925798318:True:=trivial
theorem hd.tw2788664435532181463:True:=trivial
theorem hd.tw12050417470231563642:True:=trivial
theorem hd.tw16919406825032445293:True:=trivial
theorem hd.tw11434409384045074295:True:=trivial
theorem hd.tw3182187488490625086:True:=trivial
theorem hd.tw16772102934027710169:True:=trivial
theorem hd.tw4780371949962762201:True:=trivial
theorem hd.tw12870888531099404533:True:=trivial
theorem hd.tw2509285483865878365:True:=trivial
theorem hd.tw11754176132448286083:True:=trivial
theorem hd.tw17066044127408595049:True:=trivial
theorem hd.tw10834780440838970164:True:=trivial
theorem hd.tw15279998641719260112:True:=trivial
theorem hd.tw8117029840178788049:True:=trivial
theorem hd.tw1011335219593555734:True:=trivial
theorem hd.tw15683763237869141255:True:=trivial
theorem hd.tw15687388767607454252:True:=trivial
theorem hd.tw16641143254114907239:True:=trivial
theorem hd.tw4282359134580295075:True:=trivial
theorem hd.tw16945582573551092051:True:=trivial
theorem hd.tw11213053971927718326:True:=trivial
theorem hd.tw3381375190539634487:True:=trivial
theorem hd.tw9244321171653502345:True:=trivial
theorem hd.tw6372862494175223470:True:=trivial
theorem hd.tw1588505670450824345:True:=trivial
theorem hd.tw6906073325868019850:True:=trivial
theorem hd.tw4065347644161347641:True:=trivial
theorem hd.tw7534799579077118603:True:=trivial
theorem hd.tw1194904439430580092:True:=trivial
theorem hd.tw5135410709514514960:True:=trivial
theorem hd.tw13944508082162953488:True:=trivial
theorem hd.tw14906377314874228009:True:=trivial
theorem hd.tw1939978651307754801:True:=trivial
theorem hd.tw3787991596828424046:True:=trivial
theorem hd.tw14620637471214046174:True:=trivial
theorem hd.tw3196399650302076718:True:=trivial
theorem hd.tw15042006015671813226:True:=trivial
theorem hd.tw13315533130655954831:True:=trivial
theorem hd.tw4609310046291750870:True:=trivial
theorem hd.tw651126834518081296:True:=trivial
theorem hd.tw16590289223226319832:True:=trivial
theorem hd.tw457024733287443684:True:=trivial
theorem hd.tw4014540891139286612:True:=trivial
theorem hd.tw14040608126747316905:True:=trivial
theorem hd.tw18163647496604598072:True:=trivial
theorem hd.tw18252017834820373320:True:=trivial
theorem hd.tw2026387176384410671:True:=trivial
theorem hd.tw16056359734778111409:True:=trivial
theorem hd.tw3890083515106143593:True:=trivial
theorem hd.tw8934143017859847078:True:=trivial
theorem hd.tw14439243815434019604:True:=trivial
theorem hd.tw1413172679324656950:True:=trivial
theorem hd.tw17054507655720011243:True:=trivial
theorem hd.tw4856431653887292112:True:=trivial
theorem hd.tw5378308252288859171:True:=trivial
theorem hd.tw16828599391488406296:True:=trivial
theorem hd.tw7541792107247259296:True:=trivial
theorem hd.tw9073681462420916055:True:=trivial
theorem hd.tw6838551448383532254:True:=trivial
theorem hd.tw7261450039545342454:True:=trivial
theorem hd.tw15213948185873263833:True:=trivial
theorem hd.tw4282304852377368616:True:=trivial
theorem hd.tw519851828213033955:True:=trivial
theorem hd.tw12070051907170230399:True:=trivial
theorem hd.tw18293732401869909652:True:=trivial
theorem hd.tw16828841361933241965:True:=trivial
theorem hd.tw13205855875590784517:True:=trivial
theorem hd.tw14553816603554493358:True:=trivial
theorem hd.tw6528754448969337418:True:=trivial
theorem hd.tw17318795884933167856:True:=trivial
theorem hd.tw5238241317806426387:True:=trivial
theorem hd.tw4990156530697904881:True:=trivial
theorem hd.tw7292484366425897655:True:=trivial
theorem hd.tw10792051664901133789:True:=trivial
theorem hd.tw2960447077969926378:True:=trivial
theorem hd.tw7752767780024739350:True:=trivial
theorem hd.tw5629675986466331604:True:=trivial
theorem hd.tw5978321128707920903:True:=trivial
theorem hd.tw8811097733284410319:True:=trivial
theorem hd.tw10835030195340973342:True:=trivial
theorem hd.tw10604169790165778682:True:=trivial
theorem hd.tw17577478241444706838:True:=trivial
theorem hd.tw6164396464334811476:True:=trivial
theorem hd.tw14725821394091407714:True:=trivial
theorem hd.tw5480042469492414594:True:=trivial
theorem hd.tw689954013368505116:True:=trivial
theorem hd.tw16443024508289211202:True:=trivial
theorem hd.tw16502264421070913907:True:=trivial
theorem hd.tw4971549296188076032:True:=trivial
theorem hd.tw16826083622388986153:True:=trivial
theorem hd.tw11399449904127653305:True:=trivial
theorem hd.tw6903541053762270361:True:=trivial
theorem hd.tw4654797750381630734:True:=trivial
theorem hd.tw8587404781116728655:True:=trivial
theorem hd.tw2871226400543044806:True:=trivial
theorem hd.tw6879831473291441079:True:=trivial
theorem hd.tw8683856772340465682:True:=trivial
theorem hd.tw15946388913382835224:True:=trivial
theorem hd.tw11749099774412794130:True:=trivial
theorem hd.tw14454528878903484812:True:=trivial
theorem hd.tw11905163887095721015:True:=trivial
theorem hd.tw4523669819894539328:True:=trivial
theorem hd.tw12127338746724423809:True:=trivial
theorem hd.tw9673543361469618366:True:=trivial
theorem hd.tw13638418597567726942:True:=trivial
theorem hd.tw1452849714261714991:True:=trivial
theorem hd.tw4702841417184801058:True:=trivial
theorem hd.tw11660266114150955751:True:=trivial
theorem hd.tw8345560877234265574:True:=trivial
theorem hd.tw4494801613693538912:True:=trivial
theorem hd.tw14711139521213225765:True:=trivial
theorem hd.tw8044012406986999415:True:=trivial
theorem hd.tw1800889605409440832:True:=trivial
theorem hd.tw8226494294326810461:True:=trivial
theorem hd.tw16432713993328977331:True:=trivial
theorem hd.tw14721871892148092309:True:=trivial
theorem hd.tw6780557218761844654:True:=trivial
theorem hd.tw9277588360372424766:True:=trivial
theorem hd.tw7721951785955056133:True:=trivial
theorem hd.tw16558851475291246605:True:=trivial
theorem hd.tw15367242080415987702:True:=trivial
theorem hd.tw17903497710992402801:True:=trivial
theorem hd.tw1439246655266547700:True:=trivial
theorem hd.tw7120233287515763914:True:=trivial
theorem hd.tw8068729725432388964:True:=trivial
theorem hd.tw15103106377680225435:True:=trivial
theorem hd.tw1760603350576429475:True:=trivial
theorem hd.tw4870687313549177768:True:=trivial
theorem hd.tw7610815399733428385:True:=trivial
theorem hd.tw9450335948986698252:True:=trivial
theorem hd.tw11465210709893060100:True:=trivial
theorem hd.tw15833661619300960221:True:=trivial
theorem hd.tw5036846961687405229:True:=trivial
theorem hd.tw5292301768408028288:True:=trivial
theorem hd.tw14353793391729792155:True:=trivial
theorem hd.tw8587552050624501146:True:=trivial
theorem hd.tw16993510635178189574:True:=trivial
theorem hd.tw15759970867653108152:True:=trivial
theorem hd.tw12783851568588377294:True:=trivial
theorem hd.tw15152743547302097792:True:=trivial
theorem hd.tw6213412439835118660:True:=trivial
theorem hd.tw13155780701260043360:True:=trivial
theorem hd.tw8004679753235328684:True:=trivial
theorem hd.tw10376703724636587151:True:=trivial
theorem hd.tw7489763959799892387:True:=trivial
theorem hd.tw8671608845466749128:True:=trivial
theorem hd.tw2845207389951388047:True:=trivial
theorem hd.tw5715734110848049390:True:=trivial
theorem hd.tw3173010612589774626:True:=trivial
theorem hd.tw13293453174229064190:True:=trivial
theorem hd.tw8047900516022102942:True:=trivial
theorem hd.tw5388632664720090651:True:=trivial
theorem hd.tw13931416462566266981:True:=trivial
theorem hd.tw6184208073178115725:True:=trivial
theorem hd.tw2502866573005156581:True:=trivial
theorem hd.tw16694946328126371552:True:=trivial
theorem hd.tw17895171251205151618:True:=trivial
theorem hd.tw13893168526513508166:True:=trivial
theorem hd.tw10847404155465417027:True:=trivial
theorem hd.tw162610821266807592:True:=trivial
theorem hd.tw8977307856219701671:True:=trivial
theorem hd.tw5715356086224469760:True:=trivial
theorem hd.tw5567388512258382067:True:=trivial
theorem hd.tw11917015161858427179:True:=trivial
theorem hd.tw9787125683330832049:True:=trivial
theorem hd.tw11319097763535126812:True:=trivial
theorem hd.tw15527848837575444561:True:=trivial
theorem hd.tw3940546777539579641:True:=trivial
theorem hd.tw5657824000916062451:True:=trivial
theorem hd.tw13302237318277920145:True:=trivial
theorem hd.tw11319892378374348655:True:=trivial
theorem hd.tw13129650132239662433:True:=trivial
theorem hd.tw6824622198901579176:True:=trivial
theorem hd.tw17606422857730326317:True:=trivial
theorem hd.tw17387473266821786944:True:=trivial
theorem hd.tw11109741339103130912:True:=trivial
theorem hd.tw13322179722446271537:True:=trivial
theorem hd.tw17330945745186091897:True:=trivial
theorem hd.tw3008623586974134963:True:=trivial
theorem hd.tw732345407407602841:True:=trivial
theorem hd.tw4297731678662094536:True:=trivial
theorem hd.tw3915529967508079626:True:=trivial
theorem hd.tw1610171440888473627:True:=trivial
theorem hd.tw9617658007855726926:True:=trivial
theorem hd.tw15102309248680683417:True:=trivial
theorem hd.tw9131607905817354932:True:=trivial
theorem hd.tw1097998534492414930:True:=trivial
theorem hd.tw16456969618363192440:True:=trivial
theorem hd.tw10844753989422098599:True:=trivial
theorem hd.tw9345929723534960622:True:=trivial
theorem hd.tw3218096787892578837:True:=trivial
theorem hd.tw4272726840584523970:True:=trivial
theorem hd.tw17087091549796120035:True:=trivial
theorem hd.tw13277076834127875243:True:=trivial
theorem hd.tw11283319371284918911:True:=trivial
theorem hd.tw10111801491309104144:True:=trivial
theorem hd.tw17588044629489971554:True:=trivial
theorem hd.tw10424393626065333798:True:=trivial
theorem hd.tw6819123309680001836:True:=trivial
theorem hd.tw12588582704262371052:True:=trivial
noncomputable def hd.tw10407998943557557531:Program:=PySem.Challenge.pw_ok0101_01
theorem hd.te10407998943557557531:PySem.Challenge.pw_ok0101_01 = hd.tw10407998943557557531:=rfl
noncomputable def hd.tw837153078461643449:OpenLaw:=PySem.Challenge.rw_ok0101_01
theorem hd.te837153078461643449:PySem.Challenge.rw_ok0101_01 = hd.tw837153078461643449:=rfl
noncomputable def hd.tw2309287656979702205:Program:=Mine.viewQ
theorem hd.te2309287656979702205:Mine.viewQ = hd.tw2309287656979702205:=rfl
noncomputable def hd.tw16827347190657378198:List PySem.Str:=Mine.looseQ
theorem hd.te16827347190657378198:Mine.looseQ = hd.tw16827347190657378198:=rfl
noncomputable def hd.tw18322673323316616928:=@Mine.kfM
theorem hd.te18322673323316616928:@Mine.kfM = hd.tw18322673323316616928:=rfl
noncomputable def hd.tw4674591329655974597:=@Mine.lawP
theorem hd.te4674591329655974597:@Mine.lawP = hd.tw4674591329655974597:=rfl
noncomputable def hd.tw18016676842645870728:=@Mine.Kas
theorem hd.te18016676842645870728:@Mine.Kas = hd.tw18016676842645870728:=rfl
noncomputable def hd.tw14906095594227576969:=@Mine.lawA
theorem hd.te14906095594227576969:@Mine.lawA = hd.tw14906095594227576969:=rfl
noncomputable def hd.tw4816591812421909578:=@Mine.KK
theorem hd.te4816591812421909578:@Mine.KK = hd.tw4816591812421909578:=rfl
noncomputable def hd.tw12568015206927480876:=@Mine.kfL
theorem hd.te12568015206927480876:@Mine.kfL = hd.tw12568015206927480876:=rfl
noncomputable def hd.tw9920798447756730513:=@Mine.kFn
theorem hd.te9920798447756730513:@Mine.kFn = hd.tw9920798447756730513:=rfl
noncomputable def hd.tw5373694017589826609:=@Mine.lawC
theorem hd.te5373694017589826609:@Mine.lawC = hd.tw5373694017589826609:=rfl
noncomputable def hd.tw6706528114182665113:=@Mine.kfS
theorem hd.te6706528114182665113:@Mine.kfS = hd.tw6706528114182665113:=rfl
noncomputable def hd.tw16195753660327543097:=@Mine.KKr
theorem hd.te16195753660327543097:@Mine.KKr = hd.tw16195753660327543097:=rfl
noncomputable def hd.tw14549367999050180180:=@Mine.methAt
theorem hd.te14549367999050180180:@Mine.methAt = hd.tw14549367999050180180:=rfl
noncomputable def hd.tw9211015944645480189:=@Mine.defAt
theorem hd.te9211015944645480189:@Mine.defAt = hd.tw9211015944645480189:=rfl
noncomputable def hd.tw11423055823289521279:=@Mine.pw
theorem hd.te11423055823289521279:@Mine.pw = hd.tw11423055823289521279:=rfl
open Lean in
local macro_rules
  | `(tactic| refine $f:ident $args*)=>do
    unless f.getId == `PySem.W.holds_open do Macro.throwUnsupported
    let mut out:Array (TSyntax `term):=#[]
    let mut k:=0
    for a in args do
      let n:=if a.raw.getKind == ``Lean.Parser.Term.namedArgument then a.raw[1].getId.eraseMacroScopes else .anonymous
      if n == .anonymous then k:=k + 1
      if n == `q then out:=out.push ⟨a.raw.setArg 3 (mkIdent `Mine.viewQ).raw⟩
      else if n == `loose then out:=out.push ⟨a.raw.setArg 3 (mkIdent `Mine.looseQ).raw⟩
      else if n == `Xt then out:=out.push ⟨a.raw.setArg 3 (← `(fun _=>true)).raw⟩
      else if n == `XP then out:=out.push ⟨a.raw.setArg 3 (← `(fun _ _=>True)).raw⟩
      else if n == .anonymous && k == 4 then out:=out.push (← `(fun _ _=>trivial))
      else if n == .anonymous && k == 5 then out:=out.push (← `(fun _ _ _ _ _=>trivial))
      else if n == .anonymous && k == 9 then out:=out.push (← `(fun _ _=>PySem.W.recFacts_nil rfl))
      else if n == .anonymous && k == 12 then out:=out.push (mkIdent `Mine.oks)
      else out:=out.push ⟨a.raw⟩
    `(tactic| refine ($f:ident $out*))
theorem hd:PySem.Challenge.rw_ok0101_01.Holds:=by
  o_law
  o_head (kmHook KK Kas Kas_eq [1527])
  case hw=>w_witness2
  case hc=>exact walk_ok chk looseQ _ _ rfl
end Mine
end
theorem PySem.Challenge.cw_ok0101_01_holds : PySem.Challenge.rw_ok0101_01.Holds := by
 exact Mine.hd
