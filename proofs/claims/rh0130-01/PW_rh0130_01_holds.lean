import PyProof.Rows.All
import Wide.All
import OpenK.AllK
import Wide.FinOn
import PyProof.ToksMono
import PyProof.Rows.StrTemp
import KE.KRevSl
import PyProof.SliceMore
import KE.KDictSum
import KE.LcSums
import PyProof.CallStr
import PyProof.TupleCall
import KE.KItem
import KE.KPar
import Lean
import PySem.Challenge.RW_rh0130_01
set_option Elab.async false
set_option genSizeOf false
set_option maxRecDepth 100000
set_option linter.all false
section
namespace Mine
theorem oA {p0:Prop} {p1:Prop} {C:Prop} (h:p0∧p1) (k:p0→p1→C):C:=h.elim fun q0 h=>k q0 h
theorem RG {p0:Prop} {p1:Prop} {p2:Prop} {C:Prop} (h:p0∧p1∧p2) (k:p0→p1→p2→C):C:=h.elim fun q0 h=>h.elim fun q1 h=>k q0 q1 h
theorem RF {p0:Prop} {p1:Prop} {p2:Prop} {p3:Prop} {C:Prop} (h:p0∧p1∧p2∧p3) (k:p0→p1→p2→p3→C):C:=h.elim fun q0 h=>h.elim fun q1 h=>h.elim fun q2 h=>k q0 q1 q2 h
theorem Mr {p0:Prop} {p1:Prop} {p2:Prop} {p3:Prop} {p4:Prop} {C:Prop} (h:p0∧p1∧p2∧p3∧p4) (k:p0→p1→p2→p3→p4→C):C:=h.elim fun q0 h=>h.elim fun q1 h=>h.elim fun q2 h=>h.elim fun q3 h=>k q0 q1 q2 q3 h
theorem Xz {p0:Prop} {p1:Prop} {p2:Prop} {p3:Prop} {p4:Prop} {p5:Prop} {C:Prop} (h:p0∧p1∧p2∧p3∧p4∧p5) (k:p0→p1→p2→p3→p4→p5→C):C:=h.elim fun q0 h=>h.elim fun q1 h=>h.elim fun q2 h=>h.elim fun q3 h=>h.elim fun q4 h=>k q0 q1 q2 q3 q4 h
theorem oAAE.{u2} {p0:Prop} {p1:Prop} {α2:Sort u2} {p3:α2→Prop} {C:Prop} (h:p0∧p1∧∃ x2:α2,p3 x2) (k:p0→p1→∀ x2,p3 x2→C):C:=h.elim fun q0 h=>h.elim fun q1 h=>h.elim fun x2 h=>k q0 q1 x2 h
theorem oAAEA.{u2} {p0:Prop} {p1:Prop} {α2:Sort u2} {p3:α2→Prop} {p4:α2→Prop} {C:Prop} (h:p0∧p1∧∃ x2:α2,p3 x2∧p4 x2) (k:p0→p1→∀ x2,p3 x2→p4 x2→C):C:=h.elim fun q0 h=>h.elim fun q1 h=>h.elim fun x2 h=>h.elim fun q3 h=>k q0 q1 x2 q3 h
theorem oAEA.{u1} {p0:Prop} {α1:Sort u1} {p2:α1→Prop} {p3:α1→Prop} {C:Prop} (h:p0∧∃ x1:α1,p2 x1∧p3 x1) (k:p0→∀ x1,p2 x1→p3 x1→C):C:=h.elim fun q0 h=>h.elim fun x1 h=>h.elim fun q2 h=>k q0 x1 q2 h
theorem oAEAA.{u1} {p0:Prop} {α1:Sort u1} {p2:α1→Prop} {p3:α1→Prop} {p4:α1→Prop} {C:Prop} (h:p0∧∃ x1:α1,p2 x1∧p3 x1∧p4 x1) (k:p0→∀ x1,p2 x1→p3 x1→p4 x1→C):C:=h.elim fun q0 h=>h.elim fun x1 h=>h.elim fun q2 h=>h.elim fun q3 h=>k q0 x1 q2 q3 h
theorem oAEEA.{u1,u2} {p0:Prop} {α1:Sort u1} {α2:Sort u2} {p3:α1→α2→Prop} {p4:α1→α2→Prop} {C:Prop} (h:p0∧∃ x1:α1,∃ x2:α2,p3 x1 x2∧p4 x1 x2) (k:p0→∀ x1,∀ x2,p3 x1 x2→p4 x1 x2→C):C:=h.elim fun q0 h=>h.elim fun x1 h=>h.elim fun x2 h=>h.elim fun q3 h=>k q0 x1 x2 q3 h
theorem oAEEAAA.{u1,u2} {p0:Prop} {α1:Sort u1} {α2:Sort u2} {p3:α1→α2→Prop} {p4:α1→α2→Prop} {p5:α1→α2→Prop} {p6:α1→α2→Prop} {C:Prop} (h:p0∧∃ x1:α1,∃ x2:α2,p3 x1 x2∧p4 x1 x2∧p5 x1 x2∧p6 x1 x2) (k:p0→∀ x1,∀ x2,p3 x1 x2→p4 x1 x2→p5 x1 x2→p6 x1 x2→C):C:=h.elim fun q0 h=>h.elim fun x1 h=>h.elim fun x2 h=>h.elim fun q3 h=>h.elim fun q4 h=>h.elim fun q5 h=>k q0 x1 x2 q3 q4 q5 h
theorem oAEEEAA.{u1,u2,u3} {p0:Prop} {α1:Sort u1} {α2:Sort u2} {α3:Sort u3} {p4:α1→α2→α3→Prop} {p5:α1→α2→α3→Prop} {p6:α1→α2→α3→Prop} {C:Prop} (h:p0∧∃ x1:α1,∃ x2:α2,∃ x3:α3,p4 x1 x2 x3∧p5 x1 x2 x3∧p6 x1 x2 x3) (k:p0→∀ x1,∀ x2,∀ x3,p4 x1 x2 x3→p5 x1 x2 x3→p6 x1 x2 x3→C):C:=h.elim fun q0 h=>h.elim fun x1 h=>h.elim fun x2 h=>h.elim fun x3 h=>h.elim fun q4 h=>h.elim fun q5 h=>k q0 x1 x2 x3 q4 q5 h
theorem oE.{u0} {α0:Sort u0} {p1:α0→Prop} {C:Prop} (h:∃ x0:α0,p1 x0) (k:∀ x0,p1 x0→C):C:=h.elim fun x0 h=>k x0 h
theorem oEA.{u0} {α0:Sort u0} {p1:α0→Prop} {p2:α0→Prop} {C:Prop} (h:∃ x0:α0,p1 x0∧p2 x0) (k:∀ x0,p1 x0→p2 x0→C):C:=h.elim fun x0 h=>h.elim fun q1 h=>k x0 q1 h
theorem oEAA.{u0} {α0:Sort u0} {p1:α0→Prop} {p2:α0→Prop} {p3:α0→Prop} {C:Prop} (h:∃ x0:α0,p1 x0∧p2 x0∧p3 x0) (k:∀ x0,p1 x0→p2 x0→p3 x0→C):C:=h.elim fun x0 h=>h.elim fun q1 h=>h.elim fun q2 h=>k x0 q1 q2 h
theorem oEAAA.{u0} {α0:Sort u0} {p1:α0→Prop} {p2:α0→Prop} {p3:α0→Prop} {p4:α0→Prop} {C:Prop} (h:∃ x0:α0,p1 x0∧p2 x0∧p3 x0∧p4 x0) (k:∀ x0,p1 x0→p2 x0→p3 x0→p4 x0→C):C:=h.elim fun x0 h=>h.elim fun q1 h=>h.elim fun q2 h=>h.elim fun q3 h=>k x0 q1 q2 q3 h
theorem oEAAAA.{u0} {α0:Sort u0} {p1:α0→Prop} {p2:α0→Prop} {p3:α0→Prop} {p4:α0→Prop} {p5:α0→Prop} {C:Prop} (h:∃ x0:α0,p1 x0∧p2 x0∧p3 x0∧p4 x0∧p5 x0) (k:∀ x0,p1 x0→p2 x0→p3 x0→p4 x0→p5 x0→C):C:=h.elim fun x0 h=>h.elim fun q1 h=>h.elim fun q2 h=>h.elim fun q3 h=>h.elim fun q4 h=>k x0 q1 q2 q3 q4 h
theorem oEAAAE.{u0,u4} {α0:Sort u0} {p1:α0→Prop} {p2:α0→Prop} {p3:α0→Prop} {α4:Sort u4} {p5:α0→α4→Prop} {C:Prop} (h:∃ x0:α0,p1 x0∧p2 x0∧p3 x0∧∃ x4:α4,p5 x0 x4) (k:∀ x0,p1 x0→p2 x0→p3 x0→∀ x4,p5 x0 x4→C):C:=h.elim fun x0 h=>h.elim fun q1 h=>h.elim fun q2 h=>h.elim fun q3 h=>h.elim fun x4 h=>k x0 q1 q2 q3 x4 h
theorem oEAAE.{u0,u3} {α0:Sort u0} {p1:α0→Prop} {p2:α0→Prop} {α3:Sort u3} {p4:α0→α3→Prop} {C:Prop} (h:∃ x0:α0,p1 x0∧p2 x0∧∃ x3:α3,p4 x0 x3) (k:∀ x0,p1 x0→p2 x0→∀ x3,p4 x0 x3→C):C:=h.elim fun x0 h=>h.elim fun q1 h=>h.elim fun q2 h=>h.elim fun x3 h=>k x0 q1 q2 x3 h
theorem oEAAEA.{u0,u3} {α0:Sort u0} {p1:α0→Prop} {p2:α0→Prop} {α3:Sort u3} {p4:α0→α3→Prop} {p5:α0→α3→Prop} {C:Prop} (h:∃ x0:α0,p1 x0∧p2 x0∧∃ x3:α3,p4 x0 x3∧p5 x0 x3) (k:∀ x0,p1 x0→p2 x0→∀ x3,p4 x0 x3→p5 x0 x3→C):C:=h.elim fun x0 h=>h.elim fun q1 h=>h.elim fun q2 h=>h.elim fun x3 h=>h.elim fun q4 h=>k x0 q1 q2 x3 q4 h
theorem oEAE.{u0,u2} {α0:Sort u0} {p1:α0→Prop} {α2:Sort u2} {p3:α0→α2→Prop} {C:Prop} (h:∃ x0:α0,p1 x0∧∃ x2:α2,p3 x0 x2) (k:∀ x0,p1 x0→∀ x2,p3 x0 x2→C):C:=h.elim fun x0 h=>h.elim fun q1 h=>h.elim fun x2 h=>k x0 q1 x2 h
theorem oEAEA.{u0,u2} {α0:Sort u0} {p1:α0→Prop} {α2:Sort u2} {p3:α0→α2→Prop} {p4:α0→α2→Prop} {C:Prop} (h:∃ x0:α0,p1 x0∧∃ x2:α2,p3 x0 x2∧p4 x0 x2) (k:∀ x0,p1 x0→∀ x2,p3 x0 x2→p4 x0 x2→C):C:=h.elim fun x0 h=>h.elim fun q1 h=>h.elim fun x2 h=>h.elim fun q3 h=>k x0 q1 x2 q3 h
theorem oEAEAAA.{u0,u2} {α0:Sort u0} {p1:α0→Prop} {α2:Sort u2} {p3:α0→α2→Prop} {p4:α0→α2→Prop} {p5:α0→α2→Prop} {p6:α0→α2→Prop} {C:Prop} (h:∃ x0:α0,p1 x0∧∃ x2:α2,p3 x0 x2∧p4 x0 x2∧p5 x0 x2∧p6 x0 x2) (k:∀ x0,p1 x0→∀ x2,p3 x0 x2→p4 x0 x2→p5 x0 x2→p6 x0 x2→C):C:=h.elim fun x0 h=>h.elim fun q1 h=>h.elim fun x2 h=>h.elim fun q3 h=>h.elim fun q4 h=>h.elim fun q5 h=>k x0 q1 x2 q3 q4 q5 h
theorem oEAEEAA.{u0,u2,u3} {α0:Sort u0} {p1:α0→Prop} {α2:Sort u2} {α3:Sort u3} {p4:α0→α2→α3→Prop} {p5:α0→α2→α3→Prop} {p6:α0→α2→α3→Prop} {C:Prop} (h:∃ x0:α0,p1 x0∧∃ x2:α2,∃ x3:α3,p4 x0 x2 x3∧p5 x0 x2 x3∧p6 x0 x2 x3) (k:∀ x0,p1 x0→∀ x2,∀ x3,p4 x0 x2 x3→p5 x0 x2 x3→p6 x0 x2 x3→C):C:=h.elim fun x0 h=>h.elim fun q1 h=>h.elim fun x2 h=>h.elim fun x3 h=>h.elim fun q4 h=>h.elim fun q5 h=>k x0 q1 x2 x3 q4 q5 h
theorem oEAEEAAAA.{u0,u2,u3} {α0:Sort u0} {p1:α0→Prop} {α2:Sort u2} {α3:Sort u3} {p4:α0→α2→α3→Prop} {p5:α0→α2→α3→Prop} {p6:α0→α2→α3→Prop} {p7:α0→α2→α3→Prop} {p8:α0→α2→α3→Prop} {C:Prop} (h:∃ x0:α0,p1 x0∧∃ x2:α2,∃ x3:α3,p4 x0 x2 x3∧p5 x0 x2 x3∧p6 x0 x2 x3∧p7 x0 x2 x3∧p8 x0 x2 x3) (k:∀ x0,p1 x0→∀ x2,∀ x3,p4 x0 x2 x3→p5 x0 x2 x3→p6 x0 x2 x3→p7 x0 x2 x3→p8 x0 x2 x3→C):C:=h.elim fun x0 h=>h.elim fun q1 h=>h.elim fun x2 h=>h.elim fun x3 h=>h.elim fun q4 h=>h.elim fun q5 h=>h.elim fun q6 h=>h.elim fun q7 h=>k x0 q1 x2 x3 q4 q5 q6 q7 h
theorem oEE.{u0,u1} {α0:Sort u0} {α1:Sort u1} {p2:α0→α1→Prop} {C:Prop} (h:∃ x0:α0,∃ x1:α1,p2 x0 x1) (k:∀ x0,∀ x1,p2 x0 x1→C):C:=h.elim fun x0 h=>h.elim fun x1 h=>k x0 x1 h
theorem oEEA.{u0,u1} {α0:Sort u0} {α1:Sort u1} {p2:α0→α1→Prop} {p3:α0→α1→Prop} {C:Prop} (h:∃ x0:α0,∃ x1:α1,p2 x0 x1∧p3 x0 x1) (k:∀ x0,∀ x1,p2 x0 x1→p3 x0 x1→C):C:=h.elim fun x0 h=>h.elim fun x1 h=>h.elim fun q2 h=>k x0 x1 q2 h
theorem oEEAA.{u0,u1} {α0:Sort u0} {α1:Sort u1} {p2:α0→α1→Prop} {p3:α0→α1→Prop} {p4:α0→α1→Prop} {C:Prop} (h:∃ x0:α0,∃ x1:α1,p2 x0 x1∧p3 x0 x1∧p4 x0 x1) (k:∀ x0,∀ x1,p2 x0 x1→p3 x0 x1→p4 x0 x1→C):C:=h.elim fun x0 h=>h.elim fun x1 h=>h.elim fun q2 h=>h.elim fun q3 h=>k x0 x1 q2 q3 h
theorem oEEAAA.{u0,u1} {α0:Sort u0} {α1:Sort u1} {p2:α0→α1→Prop} {p3:α0→α1→Prop} {p4:α0→α1→Prop} {p5:α0→α1→Prop} {C:Prop} (h:∃ x0:α0,∃ x1:α1,p2 x0 x1∧p3 x0 x1∧p4 x0 x1∧p5 x0 x1) (k:∀ x0,∀ x1,p2 x0 x1→p3 x0 x1→p4 x0 x1→p5 x0 x1→C):C:=h.elim fun x0 h=>h.elim fun x1 h=>h.elim fun q2 h=>h.elim fun q3 h=>h.elim fun q4 h=>k x0 x1 q2 q3 q4 h
theorem oEEAAAA.{u0,u1} {α0:Sort u0} {α1:Sort u1} {p2:α0→α1→Prop} {p3:α0→α1→Prop} {p4:α0→α1→Prop} {p5:α0→α1→Prop} {p6:α0→α1→Prop} {C:Prop} (h:∃ x0:α0,∃ x1:α1,p2 x0 x1∧p3 x0 x1∧p4 x0 x1∧p5 x0 x1∧p6 x0 x1) (k:∀ x0,∀ x1,p2 x0 x1→p3 x0 x1→p4 x0 x1→p5 x0 x1→p6 x0 x1→C):C:=h.elim fun x0 h=>h.elim fun x1 h=>h.elim fun q2 h=>h.elim fun q3 h=>h.elim fun q4 h=>h.elim fun q5 h=>k x0 x1 q2 q3 q4 q5 h
theorem oEEAAAAA.{u0,u1} {α0:Sort u0} {α1:Sort u1} {p2:α0→α1→Prop} {p3:α0→α1→Prop} {p4:α0→α1→Prop} {p5:α0→α1→Prop} {p6:α0→α1→Prop} {p7:α0→α1→Prop} {C:Prop} (h:∃ x0:α0,∃ x1:α1,p2 x0 x1∧p3 x0 x1∧p4 x0 x1∧p5 x0 x1∧p6 x0 x1∧p7 x0 x1) (k:∀ x0,∀ x1,p2 x0 x1→p3 x0 x1→p4 x0 x1→p5 x0 x1→p6 x0 x1→p7 x0 x1→C):C:=h.elim fun x0 h=>h.elim fun x1 h=>h.elim fun q2 h=>h.elim fun q3 h=>h.elim fun q4 h=>h.elim fun q5 h=>h.elim fun q6 h=>k x0 x1 q2 q3 q4 q5 q6 h
theorem oEEE.{u0,u1,u2} {α0:Sort u0} {α1:Sort u1} {α2:Sort u2} {p3:α0→α1→α2→Prop} {C:Prop} (h:∃ x0:α0,∃ x1:α1,∃ x2:α2,p3 x0 x1 x2) (k:∀ x0,∀ x1,∀ x2,p3 x0 x1 x2→C):C:=h.elim fun x0 h=>h.elim fun x1 h=>h.elim fun x2 h=>k x0 x1 x2 h
theorem oEEEA.{u0,u1,u2} {α0:Sort u0} {α1:Sort u1} {α2:Sort u2} {p3:α0→α1→α2→Prop} {p4:α0→α1→α2→Prop} {C:Prop} (h:∃ x0:α0,∃ x1:α1,∃ x2:α2,p3 x0 x1 x2∧p4 x0 x1 x2) (k:∀ x0,∀ x1,∀ x2,p3 x0 x1 x2→p4 x0 x1 x2→C):C:=h.elim fun x0 h=>h.elim fun x1 h=>h.elim fun x2 h=>h.elim fun q3 h=>k x0 x1 x2 q3 h
theorem oEEEAA.{u0,u1,u2} {α0:Sort u0} {α1:Sort u1} {α2:Sort u2} {p3:α0→α1→α2→Prop} {p4:α0→α1→α2→Prop} {p5:α0→α1→α2→Prop} {C:Prop} (h:∃ x0:α0,∃ x1:α1,∃ x2:α2,p3 x0 x1 x2∧p4 x0 x1 x2∧p5 x0 x1 x2) (k:∀ x0,∀ x1,∀ x2,p3 x0 x1 x2→p4 x0 x1 x2→p5 x0 x1 x2→C):C:=h.elim fun x0 h=>h.elim fun x1 h=>h.elim fun x2 h=>h.elim fun q3 h=>h.elim fun q4 h=>k x0 x1 x2 q3 q4 h
theorem oEEEAAA.{u0,u1,u2} {α0:Sort u0} {α1:Sort u1} {α2:Sort u2} {p3:α0→α1→α2→Prop} {p4:α0→α1→α2→Prop} {p5:α0→α1→α2→Prop} {p6:α0→α1→α2→Prop} {C:Prop} (h:∃ x0:α0,∃ x1:α1,∃ x2:α2,p3 x0 x1 x2∧p4 x0 x1 x2∧p5 x0 x1 x2∧p6 x0 x1 x2) (k:∀ x0,∀ x1,∀ x2,p3 x0 x1 x2→p4 x0 x1 x2→p5 x0 x1 x2→p6 x0 x1 x2→C):C:=h.elim fun x0 h=>h.elim fun x1 h=>h.elim fun x2 h=>h.elim fun q3 h=>h.elim fun q4 h=>h.elim fun q5 h=>k x0 x1 x2 q3 q4 q5 h
theorem oEEEAAAA.{u0,u1,u2} {α0:Sort u0} {α1:Sort u1} {α2:Sort u2} {p3:α0→α1→α2→Prop} {p4:α0→α1→α2→Prop} {p5:α0→α1→α2→Prop} {p6:α0→α1→α2→Prop} {p7:α0→α1→α2→Prop} {C:Prop} (h:∃ x0:α0,∃ x1:α1,∃ x2:α2,p3 x0 x1 x2∧p4 x0 x1 x2∧p5 x0 x1 x2∧p6 x0 x1 x2∧p7 x0 x1 x2) (k:∀ x0,∀ x1,∀ x2,p3 x0 x1 x2→p4 x0 x1 x2→p5 x0 x1 x2→p6 x0 x1 x2→p7 x0 x1 x2→C):C:=h.elim fun x0 h=>h.elim fun x1 h=>h.elim fun x2 h=>h.elim fun q3 h=>h.elim fun q4 h=>h.elim fun q5 h=>h.elim fun q6 h=>k x0 x1 x2 q3 q4 q5 q6 h
theorem oEEEE.{u0,u1,u2,u3} {α0:Sort u0} {α1:Sort u1} {α2:Sort u2} {α3:Sort u3} {p4:α0→α1→α2→α3→Prop} {C:Prop} (h:∃ x0:α0,∃ x1:α1,∃ x2:α2,∃ x3:α3,p4 x0 x1 x2 x3) (k:∀ x0,∀ x1,∀ x2,∀ x3,p4 x0 x1 x2 x3→C):C:=h.elim fun x0 h=>h.elim fun x1 h=>h.elim fun x2 h=>h.elim fun x3 h=>k x0 x1 x2 x3 h
theorem oEEEEA.{u0,u1,u2,u3} {α0:Sort u0} {α1:Sort u1} {α2:Sort u2} {α3:Sort u3} {p4:α0→α1→α2→α3→Prop} {p5:α0→α1→α2→α3→Prop} {C:Prop} (h:∃ x0:α0,∃ x1:α1,∃ x2:α2,∃ x3:α3,p4 x0 x1 x2 x3∧p5 x0 x1 x2 x3) (k:∀ x0,∀ x1,∀ x2,∀ x3,p4 x0 x1 x2 x3→p5 x0 x1 x2 x3→C):C:=h.elim fun x0 h=>h.elim fun x1 h=>h.elim fun x2 h=>h.elim fun x3 h=>h.elim fun q4 h=>k x0 x1 x2 x3 q4 h
theorem oEEEEAA.{u0,u1,u2,u3} {α0:Sort u0} {α1:Sort u1} {α2:Sort u2} {α3:Sort u3} {p4:α0→α1→α2→α3→Prop} {p5:α0→α1→α2→α3→Prop} {p6:α0→α1→α2→α3→Prop} {C:Prop} (h:∃ x0:α0,∃ x1:α1,∃ x2:α2,∃ x3:α3,p4 x0 x1 x2 x3∧p5 x0 x1 x2 x3∧p6 x0 x1 x2 x3) (k:∀ x0,∀ x1,∀ x2,∀ x3,p4 x0 x1 x2 x3→p5 x0 x1 x2 x3→p6 x0 x1 x2 x3→C):C:=h.elim fun x0 h=>h.elim fun x1 h=>h.elim fun x2 h=>h.elim fun x3 h=>h.elim fun q4 h=>h.elim fun q5 h=>k x0 x1 x2 x3 q4 q5 h
theorem oEEEEAAA.{u0,u1,u2,u3} {α0:Sort u0} {α1:Sort u1} {α2:Sort u2} {α3:Sort u3} {p4:α0→α1→α2→α3→Prop} {p5:α0→α1→α2→α3→Prop} {p6:α0→α1→α2→α3→Prop} {p7:α0→α1→α2→α3→Prop} {C:Prop} (h:∃ x0:α0,∃ x1:α1,∃ x2:α2,∃ x3:α3,p4 x0 x1 x2 x3∧p5 x0 x1 x2 x3∧p6 x0 x1 x2 x3∧p7 x0 x1 x2 x3) (k:∀ x0,∀ x1,∀ x2,∀ x3,p4 x0 x1 x2 x3→p5 x0 x1 x2 x3→p6 x0 x1 x2 x3→p7 x0 x1 x2 x3→C):C:=h.elim fun x0 h=>h.elim fun x1 h=>h.elim fun x2 h=>h.elim fun x3 h=>h.elim fun q4 h=>h.elim fun q5 h=>h.elim fun q6 h=>k x0 x1 x2 x3 q4 q5 q6 h
theorem oEEEEAAAA.{u0,u1,u2,u3} {α0:Sort u0} {α1:Sort u1} {α2:Sort u2} {α3:Sort u3} {p4:α0→α1→α2→α3→Prop} {p5:α0→α1→α2→α3→Prop} {p6:α0→α1→α2→α3→Prop} {p7:α0→α1→α2→α3→Prop} {p8:α0→α1→α2→α3→Prop} {C:Prop} (h:∃ x0:α0,∃ x1:α1,∃ x2:α2,∃ x3:α3,p4 x0 x1 x2 x3∧p5 x0 x1 x2 x3∧p6 x0 x1 x2 x3∧p7 x0 x1 x2 x3∧p8 x0 x1 x2 x3) (k:∀ x0,∀ x1,∀ x2,∀ x3,p4 x0 x1 x2 x3→p5 x0 x1 x2 x3→p6 x0 x1 x2 x3→p7 x0 x1 x2 x3→p8 x0 x1 x2 x3→C):C:=h.elim fun x0 h=>h.elim fun x1 h=>h.elim fun x2 h=>h.elim fun x3 h=>h.elim fun q4 h=>h.elim fun q5 h=>h.elim fun q6 h=>h.elim fun q7 h=>k x0 x1 x2 x3 q4 q5 q6 q7 h
theorem oEEEEAAAAA.{u0,u1,u2,u3} {α0:Sort u0} {α1:Sort u1} {α2:Sort u2} {α3:Sort u3} {p4:α0→α1→α2→α3→Prop} {p5:α0→α1→α2→α3→Prop} {p6:α0→α1→α2→α3→Prop} {p7:α0→α1→α2→α3→Prop} {p8:α0→α1→α2→α3→Prop} {p9:α0→α1→α2→α3→Prop} {C:Prop} (h:∃ x0:α0,∃ x1:α1,∃ x2:α2,∃ x3:α3,p4 x0 x1 x2 x3∧p5 x0 x1 x2 x3∧p6 x0 x1 x2 x3∧p7 x0 x1 x2 x3∧p8 x0 x1 x2 x3∧p9 x0 x1 x2 x3) (k:∀ x0,∀ x1,∀ x2,∀ x3,p4 x0 x1 x2 x3→p5 x0 x1 x2 x3→p6 x0 x1 x2 x3→p7 x0 x1 x2 x3→p8 x0 x1 x2 x3→p9 x0 x1 x2 x3→C):C:=h.elim fun x0 h=>h.elim fun x1 h=>h.elim fun x2 h=>h.elim fun x3 h=>h.elim fun q4 h=>h.elim fun q5 h=>h.elim fun q6 h=>h.elim fun q7 h=>h.elim fun q8 h=>k x0 x1 x2 x3 q4 q5 q6 q7 q8 h
theorem oEEEEAAAAAAA.{u0,u1,u2,u3} {α0:Sort u0} {α1:Sort u1} {α2:Sort u2} {α3:Sort u3} {p4:α0→α1→α2→α3→Prop} {p5:α0→α1→α2→α3→Prop} {p6:α0→α1→α2→α3→Prop} {p7:α0→α1→α2→α3→Prop} {p8:α0→α1→α2→α3→Prop} {p9:α0→α1→α2→α3→Prop} {p10:α0→α1→α2→α3→Prop} {p11:α0→α1→α2→α3→Prop} {C:Prop} (h:∃ x0:α0,∃ x1:α1,∃ x2:α2,∃ x3:α3,p4 x0 x1 x2 x3∧p5 x0 x1 x2 x3∧p6 x0 x1 x2 x3∧p7 x0 x1 x2 x3∧p8 x0 x1 x2 x3∧p9 x0 x1 x2 x3∧p10 x0 x1 x2 x3∧p11 x0 x1 x2 x3) (k:∀ x0,∀ x1,∀ x2,∀ x3,p4 x0 x1 x2 x3→p5 x0 x1 x2 x3→p6 x0 x1 x2 x3→p7 x0 x1 x2 x3→p8 x0 x1 x2 x3→p9 x0 x1 x2 x3→p10 x0 x1 x2 x3→p11 x0 x1 x2 x3→C):C:=h.elim fun x0 h=>h.elim fun x1 h=>h.elim fun x2 h=>h.elim fun x3 h=>h.elim fun q4 h=>h.elim fun q5 h=>h.elim fun q6 h=>h.elim fun q7 h=>h.elim fun q8 h=>h.elim fun q9 h=>h.elim fun q10 h=>k x0 x1 x2 x3 q4 q5 q6 q7 q8 q9 q10 h
theorem oEEEEEA.{u0,u1,u2,u3,u4} {α0:Sort u0} {α1:Sort u1} {α2:Sort u2} {α3:Sort u3} {α4:Sort u4} {p5:α0→α1→α2→α3→α4→Prop} {p6:α0→α1→α2→α3→α4→Prop} {C:Prop} (h:∃ x0:α0,∃ x1:α1,∃ x2:α2,∃ x3:α3,∃ x4:α4,p5 x0 x1 x2 x3 x4∧p6 x0 x1 x2 x3 x4) (k:∀ x0,∀ x1,∀ x2,∀ x3,∀ x4,p5 x0 x1 x2 x3 x4→p6 x0 x1 x2 x3 x4→C):C:=h.elim fun x0 h=>h.elim fun x1 h=>h.elim fun x2 h=>h.elim fun x3 h=>h.elim fun x4 h=>h.elim fun q5 h=>k x0 x1 x2 x3 x4 q5 h
theorem oEEEEEAAAA.{u0,u1,u2,u3,u4} {α0:Sort u0} {α1:Sort u1} {α2:Sort u2} {α3:Sort u3} {α4:Sort u4} {p5:α0→α1→α2→α3→α4→Prop} {p6:α0→α1→α2→α3→α4→Prop} {p7:α0→α1→α2→α3→α4→Prop} {p8:α0→α1→α2→α3→α4→Prop} {p9:α0→α1→α2→α3→α4→Prop} {C:Prop} (h:∃ x0:α0,∃ x1:α1,∃ x2:α2,∃ x3:α3,∃ x4:α4,p5 x0 x1 x2 x3 x4∧p6 x0 x1 x2 x3 x4∧p7 x0 x1 x2 x3 x4∧p8 x0 x1 x2 x3 x4∧p9 x0 x1 x2 x3 x4) (k:∀ x0,∀ x1,∀ x2,∀ x3,∀ x4,p5 x0 x1 x2 x3 x4→p6 x0 x1 x2 x3 x4→p7 x0 x1 x2 x3 x4→p8 x0 x1 x2 x3 x4→p9 x0 x1 x2 x3 x4→C):C:=h.elim fun x0 h=>h.elim fun x1 h=>h.elim fun x2 h=>h.elim fun x3 h=>h.elim fun x4 h=>h.elim fun q5 h=>h.elim fun q6 h=>h.elim fun q7 h=>h.elim fun q8 h=>k x0 x1 x2 x3 x4 q5 q6 q7 q8 h
theorem oEEEEEAAAAA.{u0,u1,u2,u3,u4} {α0:Sort u0} {α1:Sort u1} {α2:Sort u2} {α3:Sort u3} {α4:Sort u4} {p5:α0→α1→α2→α3→α4→Prop} {p6:α0→α1→α2→α3→α4→Prop} {p7:α0→α1→α2→α3→α4→Prop} {p8:α0→α1→α2→α3→α4→Prop} {p9:α0→α1→α2→α3→α4→Prop} {p10:α0→α1→α2→α3→α4→Prop} {C:Prop} (h:∃ x0:α0,∃ x1:α1,∃ x2:α2,∃ x3:α3,∃ x4:α4,p5 x0 x1 x2 x3 x4∧p6 x0 x1 x2 x3 x4∧p7 x0 x1 x2 x3 x4∧p8 x0 x1 x2 x3 x4∧p9 x0 x1 x2 x3 x4∧p10 x0 x1 x2 x3 x4) (k:∀ x0,∀ x1,∀ x2,∀ x3,∀ x4,p5 x0 x1 x2 x3 x4→p6 x0 x1 x2 x3 x4→p7 x0 x1 x2 x3 x4→p8 x0 x1 x2 x3 x4→p9 x0 x1 x2 x3 x4→p10 x0 x1 x2 x3 x4→C):C:=h.elim fun x0 h=>h.elim fun x1 h=>h.elim fun x2 h=>h.elim fun x3 h=>h.elim fun x4 h=>h.elim fun q5 h=>h.elim fun q6 h=>h.elim fun q7 h=>h.elim fun q8 h=>h.elim fun q9 h=>k x0 x1 x2 x3 x4 q5 q6 q7 q8 q9 h
theorem oEEEEEEAAAA.{u0,u1,u2,u3,u4,u5} {α0:Sort u0} {α1:Sort u1} {α2:Sort u2} {α3:Sort u3} {α4:Sort u4} {α5:Sort u5} {p6:α0→α1→α2→α3→α4→α5→Prop} {p7:α0→α1→α2→α3→α4→α5→Prop} {p8:α0→α1→α2→α3→α4→α5→Prop} {p9:α0→α1→α2→α3→α4→α5→Prop} {p10:α0→α1→α2→α3→α4→α5→Prop} {C:Prop} (h:∃ x0:α0,∃ x1:α1,∃ x2:α2,∃ x3:α3,∃ x4:α4,∃ x5:α5,p6 x0 x1 x2 x3 x4 x5∧p7 x0 x1 x2 x3 x4 x5∧p8 x0 x1 x2 x3 x4 x5∧p9 x0 x1 x2 x3 x4 x5∧p10 x0 x1 x2 x3 x4 x5) (k:∀ x0,∀ x1,∀ x2,∀ x3,∀ x4,∀ x5,p6 x0 x1 x2 x3 x4 x5→p7 x0 x1 x2 x3 x4 x5→p8 x0 x1 x2 x3 x4 x5→p9 x0 x1 x2 x3 x4 x5→p10 x0 x1 x2 x3 x4 x5→C):C:=h.elim fun x0 h=>h.elim fun x1 h=>h.elim fun x2 h=>h.elim fun x3 h=>h.elim fun x4 h=>h.elim fun x5 h=>h.elim fun q6 h=>h.elim fun q7 h=>h.elim fun q8 h=>h.elim fun q9 h=>k x0 x1 x2 x3 x4 x5 q6 q7 q8 q9 h
theorem oEEEEEEAAAAA.{u0,u1,u2,u3,u4,u5} {α0:Sort u0} {α1:Sort u1} {α2:Sort u2} {α3:Sort u3} {α4:Sort u4} {α5:Sort u5} {p6:α0→α1→α2→α3→α4→α5→Prop} {p7:α0→α1→α2→α3→α4→α5→Prop} {p8:α0→α1→α2→α3→α4→α5→Prop} {p9:α0→α1→α2→α3→α4→α5→Prop} {p10:α0→α1→α2→α3→α4→α5→Prop} {p11:α0→α1→α2→α3→α4→α5→Prop} {C:Prop} (h:∃ x0:α0,∃ x1:α1,∃ x2:α2,∃ x3:α3,∃ x4:α4,∃ x5:α5,p6 x0 x1 x2 x3 x4 x5∧p7 x0 x1 x2 x3 x4 x5∧p8 x0 x1 x2 x3 x4 x5∧p9 x0 x1 x2 x3 x4 x5∧p10 x0 x1 x2 x3 x4 x5∧p11 x0 x1 x2 x3 x4 x5) (k:∀ x0,∀ x1,∀ x2,∀ x3,∀ x4,∀ x5,p6 x0 x1 x2 x3 x4 x5→p7 x0 x1 x2 x3 x4 x5→p8 x0 x1 x2 x3 x4 x5→p9 x0 x1 x2 x3 x4 x5→p10 x0 x1 x2 x3 x4 x5→p11 x0 x1 x2 x3 x4 x5→C):C:=h.elim fun x0 h=>h.elim fun x1 h=>h.elim fun x2 h=>h.elim fun x3 h=>h.elim fun x4 h=>h.elim fun x5 h=>h.elim fun q6 h=>h.elim fun q7 h=>h.elim fun q8 h=>h.elim fun q9 h=>h.elim fun q10 h=>k x0 x1 x2 x3 x4 x5 q6 q7 q8 q9 q10 h
theorem oEEEEEEEA.{u0,u1,u2,u3,u4,u5,u6} {α0:Sort u0} {α1:Sort u1} {α2:Sort u2} {α3:Sort u3} {α4:Sort u4} {α5:Sort u5} {α6:Sort u6} {p7:α0→α1→α2→α3→α4→α5→α6→Prop} {p8:α0→α1→α2→α3→α4→α5→α6→Prop} {C:Prop} (h:∃ x0:α0,∃ x1:α1,∃ x2:α2,∃ x3:α3,∃ x4:α4,∃ x5:α5,∃ x6:α6,p7 x0 x1 x2 x3 x4 x5 x6∧p8 x0 x1 x2 x3 x4 x5 x6) (k:∀ x0,∀ x1,∀ x2,∀ x3,∀ x4,∀ x5,∀ x6,p7 x0 x1 x2 x3 x4 x5 x6→p8 x0 x1 x2 x3 x4 x5 x6→C):C:=h.elim fun x0 h=>h.elim fun x1 h=>h.elim fun x2 h=>h.elim fun x3 h=>h.elim fun x4 h=>h.elim fun x5 h=>h.elim fun x6 h=>h.elim fun q7 h=>k x0 x1 x2 x3 x4 x5 x6 q7 h
theorem nO {α:Type u} {x:α} {C:Prop} (h:none=some x):C:=nomatch h
theorem nB {C:Prop} (h:false=true):C:=nomatch h
theorem nT {C:Prop} (h:true=false):C:=nomatch h
theorem nS {α:Type u} {x:α} {C:Prop} (h:some x=none):C:=nomatch h
theorem nL {α:Type u} {x:α} {C:Prop} (h:x∈[]):C:=nomatch h
theorem nF {C:Prop} (h:False):C:=h.elim
theorem nC {α:Type u} {x:α} {l:List α} {C:Prop} (h:x::l=[]):C:=nomatch h
theorem nD {α:Type u} {x:α} {l:List α} {C:Prop} (h:[]=x::l):C:=nomatch h
theorem dB {c:Prop} [Decidable c] {t:c→Bool} (h:dite c t (fun _=>false)=true):∃ q,t q=true:=by
 by_cases q:c
 ·rw [dif_pos q] at h;exact ⟨q,h⟩
 ·rw [dif_neg q] at h;exact nB h
theorem dO {α:Type} {c:Prop} [Decidable c] {t:c→Option α} {r:α} (h:dite c t (fun _=>none)=some r):∃ q,t q=some r:=by
 by_cases q:c
 ·rw [dif_pos q] at h;exact ⟨q,h⟩
 ·rw [dif_neg q] at h;exact nO h
theorem gI {α:Type u} {l:List α} {i:Nat} {a:α} (h:l[i]?=some a):∃ h:i<l.length,l[i]=a:=List.getElem?_eq_some_iff.mp h
theorem mC {α:Type u} {a b:α} {l:List α} (h:a∈b::l):a=b∨a∈l:=List.mem_cons.mp h
theorem mA {α:Type u} {a:α} {s t:List α} (h:a∈s++t):a∈s∨a∈t:=List.mem_append.mp h
theorem oM {α:Type u} {β:Type v} {f:α→β} {o:Option α} {b:β} (h:o.map f=some b):∃ a,o=some a∧f a=b:=Option.map_eq_some_iff.mp h
theorem mQ {α:Type u} {β:Type v} {f:α→β} {l:List α} {b:β} (h:b∈l.map f):∃ a,a∈l∧f a=b:=List.mem_map.mp h
theorem sI {α:Type u} {a b:α} (h:some a=some b):a=b:=Option.some.inj h
end Mine
end
section
set_option maxHeartbeats 0
namespace Mine
open PySem PySem.W PyProof.Rows
abbrev L0:OpenLaw:=PySem.Challenge.rw_rh0130_01
abbrev P0:Program:=L0.row.toRowW.1
abbrev B0:List Stmt:=behindTheImports P0
noncomputable def Q0:Program:={ P0 with main:={ P0.main with body:=P0.main.body.drop 148 } }
noncomputable def Ww:List Str:=(P0.main.scope.names.map (·.1)).filter fun n=>n != Str.ofString "law"
noncomputable def UG:Env:={ scope:=P0.main.scope,locals:=mainNs,globals:=mainNs,cells:=[],code:=.ref 13,frame:=some 14 }
noncomputable abbrev Vv:Pos:=⟨0,0,0,0⟩
noncomputable abbrev psE:Pos:=⟨724,0,749,74⟩
noncomputable abbrev c0:Code:=.body B0 UG
noncomputable def tO:Obj:={ cls:=.type "tuple",data:=.seq #[] }
noncomputable def cO:Obj:={ cls:=.type "code",data:=.fields #[.str "<module>" 182,.str "<module>" 183,.str "/claim/cut.py" 184,.int 1 0,.int 0 0,.int 0 0,.int 0 0,.int 0 0,.ref 11,.bool false,.int 181 0,.ref 12,.none,.none,.none,.none,.int 185 0,.int 1 0,.str "/claim/cut.py" 186] }
noncomputable def gO:Obj:={ cls:=.type "frame",slots:=#[some (.ref 13),some (.ref 3),some (.ref 3),none,some (.str "__main__" 164),none,some (.ref 0)] }
noncomputable def l0 (P:Params):List Obj:=[boot_o_0 P,boot_o_1 P,boot_o_2 P,boot_o_3 P,boot_o_4 P,boot_o_5 P,boot_o_6 P,boot_o_7 P,boot_o_8 P,boot_o_9 P,boot_o_10 P,tO,{ cls:=.none,data:=.fields #[] },cO,gO]
noncomputable def T0 (P:Params):BT:=(l0 P).zipIdx.foldl (fun t p=>t.ins p.2 p.1) .nil
noncomputable def S0 (P:Params) (os:OsState):SharedT:=⟨T0 P,15,{},#[],{},187,os⟩
theorem AAf (w:World) (os:OsState):topGo treeTable P0 w 11 (some (.ref 6)) 12 ⟨boot_heap w.params,#[],boot_drawn,boot_toks,os⟩ (topStub P0) =
  some ((S0 w.params os).abs,⟨denote treeTable c0,c0,Vv,[topFrame Vv]⟩):=by kernel_rfl
theorem AAz (w:World) (os:OsState):segRun treeTable P0 w 11 (some (.ref 6)) 1 1 (S0 w.params os).abs (blockOf B0 UG c0 Vv [topFrame Vv])=some (.next,(S0 w.params os).abs,c0,Vv):=by kernel_rfl
theorem AAv (w:World) (s:Shared) (p:Pos):topRun treeTable P0 w 11 (some (.ref 6)) 2 s (restOf [] UG c0 p [topFrame Vv])=some s:=by kernel_rfl
end Mine
end
section
set_option maxHeartbeats 0
namespace Mine
open PySem PySem.W PyProof.Rows
noncomputable def oT (n:Nat) (l:List Value):Obj:={ cls:=.type "tuple",data:=.seq ⟨l⟩ n }
noncomputable def oD (P:Params) (n:Nat) (l:List (String×Nat×Value)):Obj:={ cls:=.type "dict",data:=.dict ⟨l.map fun p=>{ hash:=PyData.keyHash P (Str.ofString p.1),key:=.str (Str.ofString p.1) p.2.1,val:=p.2.2 }⟩ n }
noncomputable def oI (n:Nat) (l:List (Int×Value×Value)):Obj:={ cls:=.type "dict",data:=.dict ⟨l.map fun p=>⟨p.1,p.2.1,p.2.2⟩⟩ n }
noncomputable def fS (i:Nat):Option Stmt:=P0.main.body[i]?
noncomputable def mS (i j:Nat):Option Stmt:=match fS i with
 | some (.ClassDef _ _ _ b _ _ _ _ _ _ _)=>b[j]?
 | _=>none
noncomputable def oF (st:Option Stmt) (q:Option Str) (d m c:Value):Obj:=match st with
 | some (.FunctionDef n a b _ _ _ s _ _ _)=>{ cls:=.type "function",data:=.func { name:=n,qualname:=q.getD n,params:=a,body:=.stmts b,scope:=s,globals:=3,closure:=[],defaults:=d,kwdefaults:=.none,pyModule:=m,code:=c } }
 | _=>default
noncomputable def m1:Value:=.str "kindkeep.types" 256
noncomputable def m2:Value:=.str "kindkeep.callsigs" 1199
noncomputable def m3:Value:=.str "kindkeep.hosts" 889
noncomputable def m4:Value:=.str "kindkeep.shapes" 872
noncomputable def m5:Value:=.str "kindkeep.typeops" 691
noncomputable def m6:Value:=.str "law_rh0130_01" 1270
noncomputable def KF:Frag:=[
(103,oF (mS 59 0) (some "TypeTable.__init__") .none m1 (.ref 102)),
(117,oF (mS 59 2) (some "TypeTable.put") .none m1 (.ref 116)),
(139,oF (fS 61) none (.ref 132) m1 (.ref 138)),
(147,oF (fS 62) none (.ref 140) m1 (.ref 146)),
(155,oF (fS 63) none (.ref 148) m1 (.ref 154)),
(162,oF (fS 64) none .none m1 (.ref 161)),
(169,oF (fS 65) none .none m1 (.ref 168)),
(176,oF (fS 66) none .none m1 (.ref 175)),
(182,oF (fS 67) none (.ref 177) m1 (.ref 181)),
(191,oF (fS 68) none (.ref 184) m1 (.ref 190)),
(199,oF (fS 69) none (.ref 192) m1 (.ref 198)),
(206,oF (fS 70) none .none m1 (.ref 205)),
(213,oF (fS 71) none .none m1 (.ref 212)),
(220,oF (fS 72) none .none m1 (.ref 219)),
(227,oF (fS 73) none .none m1 (.ref 226)),
(234,oF (fS 74) none .none m1 (.ref 233)),
(241,oF (fS 75) none .none m1 (.ref 240)),
(246,oF (fS 76) none .none m1 (.ref 245)),
(251,oF (fS 77) none .none m1 (.ref 250)),
(258,oF (fS 78) none .none m1 (.ref 257)),
(265,oF (fS 79) none .none m1 (.ref 264)),
(272,oF (fS 80) none .none m1 (.ref 271)),
(305,oF (fS 85) none .none m1 (.ref 304)),
(312,oF (fS 86) none .none m1 (.ref 311)),
(369,oF (fS 101) none .none m5 (.ref 368)),
(376,oF (fS 102) none .none m5 (.ref 375)),
(390,oF (fS 104) none .none m5 (.ref 389)),
(397,oF (fS 105) none .none m5 (.ref 396)),
(404,oF (fS 106) none .none m5 (.ref 403)),
(409,oF (fS 107) none .none m5 (.ref 408)),
(416,oF (fS 108) none .none m5 (.ref 415)),
(423,oF (fS 109) none .none m5 (.ref 422)),
(428,oF (fS 111) none .none m4 (.ref 427)),
(435,oF (fS 112) none .none m4 (.ref 434)),
(449,oF (mS 116 0) (some "Thin.__init__") .none m3 (.ref 448)),
(456,oF (mS 116 1) (some "Thin.force") .none m3 (.ref 455)),
(589,oF (fS 117) none .none m3 (.ref 588)),
(596,oF (fS 118) none .none m3 (.ref 595)),
(601,oF (fS 119) none .none m3 (.ref 600)),
(608,oF (fS 120) none .none m3 (.ref 607)),
(613,oF (fS 121) none .none m3 (.ref 612)),
(620,oF (fS 122) none .none m3 (.ref 619)),
(627,oF (fS 123) none .none m3 (.ref 626)),
(632,oF (fS 124) none .none m3 (.ref 631)),
(639,oF (fS 125) none .none m3 (.ref 638)),
(646,oF (fS 126) none .none m3 (.ref 645)),
(653,oF (fS 127) none .none m3 (.ref 652)),
(660,oF (fS 128) none .none m3 (.ref 659)),
(667,oF (fS 129) none .none m3 (.ref 666)),
(672,oF (fS 131) none .none m2 (.ref 671)),
(677,oF (fS 132) none .none m2 (.ref 676)),
(684,oF (fS 133) none .none m2 (.ref 683)),
(691,oF (fS 134) none .none m2 (.ref 690)),
(698,oF (fS 135) none .none m2 (.ref 697)),
(705,oF (fS 136) none .none m2 (.ref 704)),
(712,oF (fS 138) none .none m6 (.ref 711)),
(719,oF (fS 139) none .none m6 (.ref 718)),
(726,oF (fS 140) none .none m6 (.ref 725)),
(733,oF (fS 141) none .none m6 (.ref 732)),
(740,oF (fS 142) none .none m6 (.ref 739)),
(747,oF (fS 143) none .none m6 (.ref 746)),
(754,oF (fS 144) none .none m6 (.ref 753)),
(761,oF (fS 145) none .none m6 (.ref 760)),
(766,oF (fS 146) none .none m6 (.ref 765)),
(771,oF (fS 147) none .none m6 (.ref 770)),
(776,oF (fS 148) none .none m6 (.ref 775))]
noncomputable def KR:Frag:=[
(63,oT 0 [.int 1 258,.str "any" 356]),
(64,oT 0 [.int 1 258,.str "unknown" 357]),
(65,oT 0 [.int 1 258,.str "never" 358]),
(66,oT 0 [.int 1 258,.str "void" 359]),
(67,oT 0 [.int 1 258,.str "undefined" 360]),
(68,oT 0 [.int 1 258,.str "null" 361]),
(69,oT 0 [.int 1 258,.str "string" 362]),
(70,oT 0 [.int 1 258,.str "number" 363]),
(71,oT 0 [.int 2 260,.int 0 364,.int 0 365]),
(72,oT 0 [.int 2 260,.int 1 366,.int 0 367]),
(73,oT 0 [.int 1 258,.str "object" 368]),
(74,oT 0 []),
(75,oT 0 []),
(76,oT 0 []),
(77,oT 0 []),
(78,oT 0 []),
(79,oT 0 [.int 8 272,.ref 74,.ref 75,.ref 76,.ref 77,.ref 78,.int 0 369]),
(80,oT 0 [.int 8 370,.int 9 371]),
(81,oT 0 [.int 6 268,.ref 80]),
(82,oT 0 [.int 1 258,.str "error" 372]),
(83,oT 0 [.int 2 260,.int 0 373,.int 1 374]),
(84,oT 0 [.int 2 260,.int 1 375,.int 1 376]),
(85,oT 0 [.ref 63,.ref 64,.ref 65,.ref 66,.ref 67,.ref 68,.ref 69,.ref 70,.ref 71,.ref 72,.ref 73,.ref 79,.ref 81,.ref 82,.ref 83,.ref 84]),
(86,oT 0 [.int 2 260,.int 3 262,.int 4 264,.int 5 266]),
(87,oT 0 [.int 2 260,.int 3 262,.int 4 264,.int 5 266,.int 8 272]),
(88,oT 0 [.int 8 272,.int 9 274,.int 11 278,.int 12 280,.int 13 282]),
(89,oI 6 [(3,.int 3 294,.int 6 350),(4,.int 4 296,.int 5 348),(5,.int 5 298,.int 4 346),(6,.int 6 300,.int 1 340),(7,.int 7 302,.int 2 342),(10,.int 10 308,.int 7 352)]),
(120,⟨.type "type",none,.cls { name:="TypeTable",bases:=[.type "object"],mro:=[.ref 120,.type "object"],ns:=119,qualname:="TypeTable",hasDict:=true,slotNames:=[],subclasses:=[],abstract:=false,collection:=none,hasDel:=false },#[none,none,some (.str "TypeTable" 388),some (.str "TypeTable" 396),some (.builtin "object.__new__"),some (.bool true)]⟩),
(132,oT 0 [.int 0 451]),
(140,oT 0 [.int 0 461]),
(148,oT 0 [.int 0 471]),
(177,oT 0 [.int 0 518]),
(183,oT 0 []),
(184,oT 0 [.ref 183,.int 0 525]),
(192,oT 0 [.int (-1) 539,.int (-1) 541]),
(578,⟨.type "type",none,.cls { name:="Thin",bases:=[.type "object"],mro:=[.ref 578,.type "object"],ns:=577,qualname:="Thin",hasDict:=true,slotNames:=[],subclasses:=[],abstract:=false,collection:=none,hasDel:=false },#[none,none,some (.str "Thin" 895),some (.str "Thin" 903),some (.builtin "object.__new__"),some (.bool true)]⟩)]
noncomputable def gD:List (String×Nat×Value):=[("__name__",165,.str "law_rh0130_01" 1270),("__doc__",166,.none),("__package__",167,.none),("__loader__",168,.builtin "__main__.__loader__#opaque"),("__spec__",169,.none),("__annotations__",170,.ref 6),("__builtins__",171,.ref 4),("__file__",173,.str "/claim/cut.py" 172),("__cached__",174,.none),("_wall",193,.ref 21),("KeepError",226,.ref 39),("TooDeep",255,.ref 60),("Y_KEY",259,.int 1 258),("Y_BOOL",261,.int 2 260),("Y_STR",263,.int 3 262),("Y_NUM",265,.int 4 264),("Y_ENUM",267,.int 5 266),("Y_UNION",269,.int 6 268),("Y_INTER",271,.int 7 270),("Y_OBJ",273,.int 8 272),("Y_REF",275,.int 9 274),("Y_PARAM",277,.int 10 276),("Y_ARRAY",279,.int 11 278),("Y_TUPLE",281,.int 12 280),("Y_SIG",283,.int 13 282),("Y_INDEX",285,.int 15 284),("Y_TPL",287,.int 18 286),("ANY",289,.int 0 288),("UNKNOWN",291,.int 1 290),("NEVER",293,.int 2 292),("VOID",295,.int 3 294),("UNDEF",297,.int 4 296),("NULLT",299,.int 5 298),("STRING",301,.int 6 300),("NUMBER",303,.int 7 302),("FALSE_T",305,.int 8 304),("TRUE_T",307,.int 9 306),("OBJECTT",309,.int 10 308),("EMPTY",311,.int 11 310),("BOOLEAN",313,.int 12 312),("ERR",315,.int 13 314),("FRESH_F",317,.int 14 316),("FRESH_T",319,.int 15 318),("P_OPT",321,.int 1 320),("E_NEED",323,.int 0 322),("E_OPT",325,.int 1 324),("E_REST",327,.int 2 326),("E_SPREAD",329,.int 3 328),("A_NEED",331,.int 0 330),("A_OPT",333,.int 1 332),("A_REST",335,.int 2 334),("D_OBJALIAS",337,.int 3 336),("FAM_OTHER",339,.int 0 338),("FAM_STR",341,.int 1 340),("FAM_NUM",343,.int 2 342),("FAM_BOOL",345,.int 3 344),("FAM_NULL",347,.int 4 346),("FAM_UNDEF",349,.int 5 348),("FAM_VOID",351,.int 6 350),("FAM_OBJ",353,.int 7 352),("MAX_UNION",355,.int 400 354),("FIRST_ROWS",377,.ref 85),("LITERAL_ROWS",378,.ref 86),("MARKED_ROWS",379,.ref 87),("OBJECT_ROWS",380,.ref 88),("KEY_FAMILIES",387,.ref 89),("TypeTable",442,.ref 120),("kind_of",450,.ref 131),("str_type",460,.ref 139),("num_type",470,.ref 147),("array_type",480,.ref 155),("last_mark",490,.ref 162),("needed_to_last",503,.ref 169),("one_rest",517,.ref 176),("tuple_type",524,.ref 182),("sig_type",537,.ref 191),("new_param",552,.ref 199),("parts_of",561,.ref 206),("whole_of_row",569,.ref 213),("regular_twin",578,.ref 220),("join_bools",585,.ref 227),("stays_beside",594,.ref 234),("top_of",602,.ref 241),("union",608,.ref 246),("union_has",614,.ref 251),("add_undef",622,.ref 258),("is_literal",630,.ref 265),("is_unit",638,.ref 272),("is_fresh",647,.ref 279),("regular_one",655,.ref 286),("common_family",661,.ref 291),("meet_family",672,.ref 298),("family",683,.ref 305),("is_nullish_family",690,.ref 312),("MAX_DRAWN",694,.int 200 693),("MEET_NEVER",696,.int 0 695),("MEET_LEFT",698,.int 1 697),("MEET_RIGHT",700,.int 2 699),("MEET_BOTH",702,.int 3 701),("all_units",708,.ref 317),("value_literal",717,.ref 324),("kinds_apart",726,.ref 331),("units_clash",732,.ref 336),("known_decl",740,.ref 343),("body_props",749,.ref 350),("flat_props",766,.ref 357),("shapes_clash",772,.ref 362),("meet_nullish",782,.ref 369),("meet_values",793,.ref 376),("meet_objects",804,.ref 383),("meet_case",815,.ref 390),("lay_on",828,.ref 397),("members_of_meet",838,.ref 404),("meet_parts",844,.ref 409),("meet_two",860,.ref 416),("inter",871,.ref 423),("tuple_need",879,.ref 428),("tuple_most",888,.ref 435),("MOST_ROUNDS",892,.int 200 891),("MOST_SHAPES",894,.int 40 893),("Thin",1080,.ref 578),("elem_read",1088,.ref 589),("told_places",1096,.ref 596),("late_place",1102,.ref 601),("rest_parts",1111,.ref 608),("fixed_count",1117,.ref 613),("tuple_at",1126,.ref 620),("rest_at",1136,.ref 627),("param_at",1142,.ref 632),("last_needed",1151,.ref 639),("need_count",1160,.ref 646),("written_need",1173,.ref 653),("most_count",1186,.ref 660),("told_count",1198,.ref 667),("met_at",1206,.ref 672),("joined_return",1212,.ref 677),("met_counts",1226,.ref 684),("met_params",1239,.ref 691),("takes_undef",1251,.ref 698),("joined_sigs",1269,.ref 705),("_law_take",1280,.ref 712),("_law_table",1290,.ref 719),("_law_kind",1304,.ref 726),("_law_part",1324,.ref 733),("_law_at",1334,.ref 740),("_law_need",1343,.ref 747),("_law_mask",1355,.ref 754),("_law_read",1370,.ref 761),("_law_gives",1376,.ref 766),("_law_right",1382,.ref 771),("law",1388,.ref 776)]
noncomputable def KP (P:Params):Frag:=[
(3,oD P 151 gD),
(119,oD P 4 [("__module__",395,.str "kindkeep.types" 256),("__firstlineno__",399,.int 70 398),("__init__",407,.ref 103),("row",415,.ref 110),("put",424,.ref 117),("__static_attributes__",435,.ref 118),("__dict__",437,.ref 121),("__weakref__",439,.ref 122),("__doc__",440,.none)]),
(577,oD P 4 [("__module__",902,.str "kindkeep.hosts" 889),("__firstlineno__",906,.int 411 905),("__init__",914,.ref 449),("force",922,.ref 456),("put_deferred",930,.ref 463),("put_cond",939,.ref 470),("lay_row",948,.ref 477),("bound",956,.ref 484),("shape",964,.ref 491),("fits",973,.ref 498),("lies",982,.ref 505),("infers",992,.ref 512),("tpl_fits",1001,.ref 519),("shape_fits",1010,.ref 526),("put_in",1019,.ref 533),("own_sig",1028,.ref 540),("forget",1035,.ref 547),("list_prop",1044,.ref 554),("list_index",1052,.ref 561),("elem_met",1060,.ref 568),("error_class",1067,.ref 575),("__static_attributes__",1073,.ref 576),("__dict__",1075,.ref 579),("__weakref__",1077,.ref 580),("__doc__",1078,.none)])]
noncomputable def KK (P:Params):Frag:=KF++(KR++KP P)
noncomputable def UX:List (Addr×Str):=KF.filterMap fun p=>match p.2.data with
 | .func f=>(match f.code with | .ref c=>some (c,f.qualname) | _=>none)
 | _=>none
end Mine
end
section
set_option maxHeartbeats 0
namespace Mine
open PySem PySem.W PyProof.Rows
noncomputable def Xt0 (s:Shared):Bool:=xlAt Q0 [] s&&recOk (RowW.records L0.row.toRowW) s
noncomputable def Zm:Obj→Option Str
 | ⟨_,_,.fields vs,_⟩=>(match vs.toList with | _::.str q _::_=>some q | _=>none)
 | _=>none
noncomputable def XA:Option Obj→Option Str
 | some o=>Zm o
 | none=>none
noncomputable def UP (h:Heap) (a:Addr):Option Str:=XA (h.get? a)
noncomputable def W4 (o:Obj):Option Obj:=(Heap.mk #[o] {}).get? 0
noncomputable def as0:List Addr:=(KF++KR).map (·.1)++[3,119,577]
theorem Z5 (P:Params):as0=(KK P).map (·.1):=by kernel_rfl
noncomputable def Yf0 (s:Shared):List (Option Obj)×List (Option Str):=(as0.map s.heap.get?,UX.map fun p=>UP s.heap p.1)
noncomputable def Ya0 (w:World):List (Option Obj)×List (Option Str):=((KK w.params).map fun p=>some p.2,UX.map fun p=>some p.2)
noncomputable def obs (P:Params) (s:Shared) :=
 (staticsOk (importedModules P0.main.body) (boot_heap P) s.heap&&namesBound P0 s.heap&&gensDone s&&laidKept (boot_heap P) s.heap,
 PySem.W.Fast.tw4187177175401517315 Q0 Ww (importedModules P0.main.body) Xt0 true s,Yf0 s)
noncomputable abbrev ZT:=Option (Flow×SharedT×Code×Pos)
noncomputable def ZS (w:World) (s:SharedT) (l:List Stmt) (p:Pos):ZT:=PySem.W.Fast.tw10110043849684766642 PySem.W.Fast.tw14364793385576792824 P0 w 11 (some (.ref 6)) 1 3000 s (piecesOf l UG c0 p [topFrame Vv])
theorem hrt (w:World) (s:SharedT) (l:List Stmt) (p:Pos):segRunT treeTable P0 w 11 (some (.ref 6)) 1 3000 s (piecesOf l UG c0 p [topFrame Vv])=ZS w s l p:=by
 unfold ZS
 rw [←PySem.W.Fast.te10110043849684766642,←PySem.W.Fast.te14364793385576792824]
noncomputable def hCA:List (Int×Nat):=[(1,20),(5,27),(10,48),(70,95),(96,130),(98,138),(100,146),(102,154),(104,161),(110,168),(120,175),(131,181),(139,190),(141,198),(147,205),(154,212),(163,219),(168,226),(172,233),(176,240),(181,245),(198,250),(201,257),(203,264),(205,271),(207,278),(210,285),(214,290),(218,297),(227,304),(244,311),(252,316),(255,323),(260,330),(264,335),(273,342),(275,349),(280,356),(299,361),(303,368),(309,375),(319,382),(327,389),(341,396),(355,403),(366,408),(375,415),(391,422),(401,427),(403,434),(411,441),(473,588),(477,595),(484,600),(487,607),(492,612),(494,619),(498,626),(507,631),(517,638),(523,645),(528,652),(536,659),(546,666),(554,671),(560,676),(563,683),(576,690),(582,697),(588,704),(606,711),(610,718),(615,725),(622,732),(652,739),(657,746),(665,753),(671,760),(683,765),(695,770),(724,775)]
noncomputable def hTT (P:Params) (n k c:Nat) (m:Value) (f:Nat→Obj):BT :=
 [(2,{ oD P 2 [("type.__subclasses__.Exception.0",223,.int 39 0),("type.__subclasses__.Exception.n",224,.int 1 0)] with cls:=.none }),
 (3,oD P k (("__name__",165,m)::(gD.tail).take (k-1))),
 (12,{ cls:=.none,data:=.fields ⟨(hCA.take c).flatMap fun p=>[.int p.1 0,.int 0 0,.ref p.2]⟩ })].foldl (fun t p=>t.ins p.1 p.2) ((l0 P).zipIdx.foldl (fun t p=>t.ins p.2 p.1) ((List.range n).foldl (fun t i=>t.ins i (f i)) .nil))
noncomputable def hsT (P:Params) (os:OsState) (n k c t:Nat) (m:Value) (f:Nat→Obj):SharedT:=⟨hTT P n k c m f,n,{},#[],{},t,os⟩
noncomputable def Hx (r:ZT) (i:Nat):Obj:=match r with
 | some (_,s,_,_)=>(s.tree.get i).getD default
 | none=>default
noncomputable def Yi (P:Params) (n:Nat) (f:Nat→Obj):List (Option Obj):=(KK P).map fun p=>bif Nat.blt 14 p.1&&Nat.blt p.1 n then W4 (f p.1) else some p.2
noncomputable def Yj (n:Nat) (f:Nat→Obj):List (Option Str):=UX.map fun p=>bif Nat.blt p.1 n then XA (W4 (f p.1)) else some p.2
noncomputable def hq1:Pos:=⟨69,0,69,12⟩
noncomputable def hq2:Pos:=⟨409,0,409,11⟩
noncomputable def B2 (w:World) (os:OsState):ZT:=ZS w (S0 w.params os) (B0.take 59) Vv
noncomputable def Rv (P:Params) (os:OsState) (f:Nat→Obj):SharedT:=hsT P os 90 66 3 388 m1 f
noncomputable def El (w:World) (os:OsState) (f:Nat→Obj):ZT:=ZS w (Rv w.params os f) ((B0.drop 59).take 56) hq1
noncomputable def Yh (P:Params) (os:OsState) (f:Nat→Obj):SharedT:=hsT P os 436 119 50 893 m3 f
noncomputable def hr3 (w:World) (os:OsState) (f:Nat→Obj):ZT:=ZS w (Yh w.params os f) ((B0.drop 59).drop 56) hq2
noncomputable def hLo:Obj:={ cls:=.type "code",data:=.fields #[.str "law" 1383,.str "law" 1384,.str "/claim/cut.py" 1385,.int 724 0,.int 1 0,.int 0 0,.int 0 0,.int 3 0,.ref 772,.bool true,.int 181 0,.ref 773,.none,.none,.none,.ref 774,.int 1386 0,.int 724 0,.str "/claim/cut.py" 1387] }
noncomputable def ZU (P:Params) (f:Nat→Obj) (i:Nat):Obj:=bif Nat.beq i 776 then ((KK P).lookup 776).getD default else bif Nat.beq i 775 then hLo else bif Nat.beq i 773 then { cls:=.none,data:=.fields #[] } else f i
noncomputable def W3 (P:Params) (os:OsState) (f:Nat→Obj):SharedT:=hsT P os 777 151 81 1389 m6 (ZU P f)
noncomputable abbrev hW1 (w:World) (os:OsState):Prop:=(B2 w os,Yi w.params 90 (Hx (B2 w os)),Yj 90 (Hx (B2 w os)))=(some (.next,Rv w.params os (Hx (B2 w os)),c0,hq1),Ya0 w)
theorem AAu (w:World) (os:OsState):hW1 (w.withFollow "special-get-raises" false) os:=by kernel_rfl
theorem AAt (w:World) (os:OsState):hW1 (w.withFollow "special-get-raises" true) os:=by kernel_rfl
theorem ha1 (w:World) (os:OsState):hW1 w os:=byRow2 "special-get-raises" (P:=fun w=>hW1 w os) (fun w=>AAu w os) (fun w=>AAt w os) w
theorem ha2 (w:World) (os:OsState) (f:Nat→Obj):(El w os f,Yi w.params 436 (Hx (El w os f)),Yj 436 (Hx (El w os f)))=(some (.next,Yh w.params os (Hx (El w os f)),c0,hq2),Yi w.params 90 f,Yj 90 f):=by kernel_rfl
theorem ha3 (w:World) (os:OsState) (f:Nat→Obj):(hr3 w os f,Yi w.params 777 (ZU w.params (Hx (hr3 w os f))),Yj 777 (ZU w.params (Hx (hr3 w os f))))=(some (.next,W3 w.params os (Hx (hr3 w os f)),c0,psE),Yi w.params 436 f,Yj 436 f):=by kernel_rfl
theorem ha4 (P:Params) (os:OsState) (f:Nat→Obj):obs P (W3 P os f).abs=(true,openGood Q0 Ww,Yi P 777 (ZU P f),Yj 777 (ZU P f)):=by kernel_rfl
end Mine
end
section
set_option maxHeartbeats 0
namespace Mine
open PySem PySem.W PyProof.Rows
theorem Rg {h:Heap} {a:Addr} {q:Str} (e:UP h a=some q):h.CodeRec (.ref a) q:=by
 unfold UP at e
 cases ho:h.get? a with
 | none=>rw [ho] at e;cases e
 | some o =>
  rw [ho] at e
  obtain ⟨c,d,dt,sl⟩:=o
  cases dt with
  | fields vs =>
   obtain ⟨l⟩:=vs
   cases l with
   | nil=>cases e
   | cons v l =>
    cases l with
    | nil=>cases e
    | cons v2 l =>
     cases v2 with
     | str x t=>cases e;exact ⟨a,_,_,t,rfl,ho,rfl,rfl⟩
     | _=>cases e
  | _=>cases e
noncomputable def BJ (w:World) (h:Heap):Prop:=(KK w.params).In h∧∀ p∈UX,h.CodeRec (.ref p.1) p.2
theorem Y0 (w:World) (s:Shared) (e:Yf0 s=Ya0 w):BJ w s.heap:=by
 obtain ⟨e1,e2⟩:=Prod.mk.inj e
 exact ⟨InK.of (K:=KK) Z5 w s e1,fun p hp=>Rg (List.map_inj_left.mp e2 p hp)⟩
theorem J5 {h h':Heap} {v:Value} {q:Str} (x:h.CodeRec v q) (k:∀ b o,h.get? b=some o→h'.get? b=some o):h'.CodeRec v q:=by
 obtain ⟨a,o,vs,t,e1,e2,e3,e4⟩:=x
 exact ⟨a,o,vs,t,e1,k _ _ e2,e3,e4⟩
theorem Y0k (w:World) (h h':Heap) (x:BJ w h) (k:∀ b o,h.get? b=some o→h'.get? b=some o):BJ w h':=⟨InK.keeps (K:=KK) w h h' x.1 k,fun p hp=>J5 (x.2 p hp) k⟩
theorem Zs (w:World):(fencedOpening treeTable P0 w 10000).map (fun s=>(s.heap,s.gens,s.drawn,s.toks))=some (boot_heap w.params,Array.mk [],boot_drawn,boot_toks):=boot_open rfl rfl (fun _=>by kernel_rfl) w
theorem Yz (w:World):((boot_heap w.params).isNs mainGlobals&&(Array.mk []:Array GenState).size==0)=true:=by kernel_rfl
theorem Yy (w:World):(boot_heap w.params).objs.size=11:=by kernel_rfl
theorem Yx (w:World):(boot_heap w.params).nsMap mainGlobals "__annotations__"=some (.ref 6):=by kernel_rfl
theorem AAZ (w:World) (os:OsState):∃ s,topRun treeTable P0 w 11 (some (.ref 6)) 10000 ⟨boot_heap w.params,Array.mk [],boot_drawn,boot_toks,os⟩ (topStub P0)=some s∧obs w.params s=(true,openGood Q0 Ww,Ya0 w):=by
 obtain ⟨e1,y1⟩:=Prod.mk.inj (ha1 w os)
 obtain ⟨e2,y2⟩:=Prod.mk.inj (ha2 w os (Hx (B2 w os)))
 obtain ⟨e3,y3⟩:=Prod.mk.inj (ha3 w os (Hx (El w os (Hx (B2 w os)))))
 refine ⟨_,?_,(ha4 w.params os _).trans (congrArg (fun y=>(true,openGood Q0 Ww,y)) (y3.trans (y2.trans y1)))⟩
 have k3:=piece_app (segRun_of ((hrt ..).trans e3)) (AAv w _ psE)
 rw [List.append_nil] at k3
 have k2:=piece_app (segRun_of ((hrt ..).trans e2)) k3
 rw [List.take_append_drop] at k2
 have k1:=piece_app (segRun_of ((hrt ..).trans e1)) k2
 rw [List.take_append_drop] at k1
 exact topRun_mono 985 _ _ _ _ (go_top (AAf w os) (piece_block (AAz w os) k1))
theorem Tp {p q:Program} {loose:List Str} {Xt:Shared→Bool} {α:Type} {Yf:Shared→α} {Ya:World→α} {N:Nat} {w:World} {h0:Heap} {d0:Drawn} {k0 m0:Nat} {ann:Option Value}
  (b:(fencedOpening treeTable p w N).map (fun s=>(s.heap,s.gens,s.drawn,s.toks))=some (h0,Array.mk [],d0,k0)) (z:(h0.isNs mainGlobals&&(Array.mk []:Array GenState).size==0)=true) (z1:h0.objs.size=m0) (z2:h0.nsMap mainGlobals "__annotations__"=ann)
  (r:∀ os,∃ s,topRun treeTable p w m0 ann N ⟨h0,Array.mk [],d0,k0,os⟩ (topStub p)=some s∧(staticsOk (importedModules p.main.body) h0 s.heap&&namesBound p s.heap&&gensDone s&&laidKept h0 s.heap)=true ∧
   openSeen q loose (importedModules p.main.body) Xt true s=openGood q loose∧Yf s=Ya w) :
  (openEnds treeTable p w N).map (fun s=>(openSeen q loose (importedModules p.main.body) Xt true s,Yf s))=some (openGood q loose,Ya w):=by
 obtain ⟨⟨h,gs,d,k,os⟩,e,e'⟩:=Option.map_eq_some_iff.mp b
 obtain ⟨rfl,rfl,rfl,rfl⟩:h=h0∧gs=Array.mk []∧d=d0∧k=k0:=by simpa using e'
 obtain ⟨s,r,l1,l2,l3⟩:=r os
 unfold openEnds
 rw [e]
 show (topFrom treeTable p w N _).map _=_
 have t:topFrom treeTable p w N ⟨h,Array.mk [],d,k,os⟩=some s:=by
  unfold topFrom
  dsimp only
  rw [z,z1,z2,r]
  show (match staticsOk (importedModules p.main.body) h s.heap&&namesBound p s.heap&&gensDone s&&laidKept h s.heap with | true=>_ | false=>_)=_
  rw [l1]
 rw [t]
 exact congrArg some (Prod.ext l2 l3)
theorem Wy:LeftO P0 Q0 Ww Xt0 Yf0 Ya0 10000:=fun w=>Tp (Zs w) (Yz w) (Yy w) (Yx w) fun os=>by
 obtain ⟨s,r,o⟩:=AAZ w os
 unfold obs at o
 rw [←PySem.W.Fast.te4187177175401517315] at o
 obtain ⟨l1,l2⟩:=Prod.mk.inj o
 obtain ⟨l2,l3⟩:=Prod.mk.inj l2
 exact ⟨s,r,l1,l2,l3⟩
end Mine
end
section
set_option maxHeartbeats 0
namespace Mine
open PySem PySem.W PyProof.Rows
theorem ZR:∃ d kwd,defOf Q0 L0.row.name=some (d,kwd)∧L0.row.prog.theDef L0.row.name=some (d.params,d.body,d.scope)∧kwWritten? d.params.kwonlyargs d.params.kw_defaults=some kwd:=⟨_,_,rfl,rfl,rfl⟩
theorem ok0:(chainsOk Q0&&opensWell L0.row.prog&&(frees L0.row.toRowW&&L0.row.within.isEmpty))=true:=by kernel_rfl
theorem XB:L0.row.prog.bare:=⟨rfl,rfl,rfl,rfl,rfl,by kernel_rfl⟩
theorem Ym:L0.row.promised:=by w_witness2
theorem an {a b:Bool} (h:a=true) (k:b=true):(a&&b)=true:=by rw [h,k];rfl
theorem ws0:L0.wellSaid=true:=(congrFun PySem.W.Fast.te9446332074065402090 L0).trans (by
 iterate 38 refine an ?_ (by decide +kernel)
 decide +kernel)
set_option maxHeartbeats 8000000 in
theorem hd1 (walk:∀ d kwd,defOf Q0 L0.row.name=some (d,kwd)→WalkO Q0 Ww (XL Q0 []) BJ L0.row.toRowW d kwd fun f vs=>PySem.call f vs):L0.Holds:=holds_law ws0 fun said=>by
 obtain ⟨d,kwd,e1,e2,e3⟩:=ZR
 exact PySem.W.holds_open (q:=Q0) (loose:=Ww) (Xt:=Xt0) (XP:=XL Q0 []) Wy Y0 Y0k (fun s e=>xl_of s (Bool.and_eq_true_iff.mp e).1) XL.keeps e1 e2 e3 (fun s e=>recFacts_of (Bool.and_eq_true_iff.mp e).2) rfl said ok0 XB Ym (walk d kwd e1)
end Mine
end
local macro_rules | `(tactic| omega)=>`(tactic| lia)
set_option genInjectivity false
section
namespace Mine
open PySem
noncomputable abbrev sO (s:String):Str:=Str.ofString s
inductive Bi where
 | len | range | min | max | sorted | all | tuple | str
set_option genInjectivity true in
inductive PV where
 | none | bool (b:Bool) | int (i:Int) | str (x:Str) | tup (l:List PV) | rng (lo hi:Int)
 | obj (i:Nat) | fn (i:Nat) | cls (c:Nat) | bi (b:Bi) | fd (l:List (Int×Int)) | fl (l:List Int)
noncomputable section
open scoped Classical
inductive PO where
 | list (l:List PV) | dict (l:List (PV×PV)) | inst (c:Nat) (d:Nat) | attrs (l:List (Nat×PV))
noncomputable abbrev St:=List PO
noncomputable abbrev PM (α:Type):=St→(α→St→Prop)→Prop
noncomputable abbrev Lo:=List (Option PV)
inductive PT where
 | one (i:Nat) | many (l:List Nat)
inductive PE where
 | loc (i:Nat) | int (i:Int) | str (x:Str) | bool (b:Bool) | none | gl (g:Nat)
 | tup (es:List PE) | list (es:List PE) | dict (es:List (Nat×Int))
 | attr (e:PE) (a:Nat) | sub (e i:PE) | slTo (e hi:PE) | slFrom (e lo:PE) | rev (e:PE)
 | call (f:PE) (as:List PE) | meth (o:PE) (m:Nat) (as:List PE)
 | bin (op:Operator) (a b:PE) | cmp (op:CmpOp) (a b:PE) | bop (op:BoolOp) (es:List PE)
 | not (e:PE) | ite (c a b:PE) | comp (elt:PE) (t:PT) (it cond:PE) | stuck
inductive PS where
 | assign (i:Nat) (e:PE) | assignT (l:List Nat) (e:PE) | store (o i e:PE) | setat (o:PE) (a:Nat) (e:PE)
 | assign2 (i j:Nat) (a b:PE) | aug (i:Nat) (op:Operator) (e:PE) | ret (e:PE) | expr (e:PE)
 | ite (c:PE) (t f:List PS) | loop (t:PT) (it:PE) (body:List PS) | whl (c:PE) (body:List PS) | stuck
inductive Fl where
 | next | ret (v:PV)
noncomputable def Ad:Nat→PV→Bool
 | 0,v=>match v with
  | .int _=>true
  | .str x=>x.cps.all (·<0x110000)
  | _=>false
 | n+1,v=>match v with
  | .int _=>true
  | .str x=>x.cps.all (·<0x110000)
  | .tup l=>l.all (Ad n)
  | _=>false
noncomputable abbrev PV.plain (v:PV):Bool:=Ad 6 v
noncomputable abbrev G9 (l:List PV):Bool:=l.all (Ad 6)
noncomputable def PV.isInt:PV→Bool
 | .int _=>true
 | _=>false
noncomputable def PV.isTup:PV→Bool
 | .tup _=>true
 | _=>false
noncomputable def keyed (k:PV) (l:List (PV×PV)):Prop :=
 (k.isInt=true∧∀ p∈l,p.1.isInt=true)∨(k.isTup=true∧k.plain=true∧∀ p∈l,p.1.isTup=true)
inductive BP (st:St):PV→Bool→Prop
 | none:BP st .none false
 | bool (b):BP st (.bool b) b
 | int (i):BP st (.int i) (decide (i≠0))
 | tup {l} (h:l.length≤100000):BP st (.tup l) (!l.isEmpty)
 | list {i l} (e:st[i]?=some (.list l)) (h:l.length≤100000):BP st (.obj i) (!l.isEmpty)
noncomputable def intOp:Operator→Int→Int→Option Int
 | .Add,a,b=>some (a+b)
 | .Sub,a,b=>some (a-b)
 | .FloorDiv,a,b=>if b≠0∧a.natAbs<2 ^ 30∧b.natAbs<2 ^ 30 then some (a.fdiv b) else none
 | .Mod,a,b=>if b≠0 then some (a.fmod b) else none
 | .BitAnd,a,b=>if 0≤a∧0≤b then some ((a.toNat&&&b.toNat:Nat):Int) else none
 | .BitOr,a,b=>if 0≤a∧0≤b then some ((a.toNat|||b.toNat:Nat):Int) else none
 | _,_,_=>none
inductive Pf (st:St) (Q:PV→St→Prop):Operator→PV→PV→Prop
 | int {op x y z} (h:intOp op x y=some z) (q:Q (.int z) st):Pf st Q op (.int x) (.int y)
 | str {x y} (h:x.length+y.length≤1000) (q:Q (.str (x++y)) st):Pf st Q .Add (.str x) (.str y)
 | list {i j l k} (e:st[i]?=some (.list l)) (f:st[j]?=some (.list k)) (h:l.length+k.length≤100000) (q:Q (.obj st.length) (st++[.list (l++k)])):Pf st Q .Add (.obj i) (.obj j)
inductive XJ (st:St):PV→PV→Bool→Prop
 | int (a b):XJ st (.int a) (.int b) (decide (a=b))
 | bool (a b):XJ st (.bool a) (.bool b) (decide (a=b))
 | tup {a b} (p:G9 a=true) (q:G9 b=true):XJ st (.tup a) (.tup b) (decide (a=b))
 | list {i j a b} (e:st[i]?=some (.list a)) (f:st[j]?=some (.list b)) (p:G9 a=true) (q:G9 b=true):XJ st (.obj i) (.obj j) (decide (a=b))
inductive WZ (st:St) (a:PV):PV→Bool→Prop
 | tup {l} (p:a.plain=true) (q:G9 l=true):WZ st a (.tup l) (decide (a∈l))
 | list {j l} (e:st[j]?=some (.list l)) (p:a.plain=true) (q:G9 l=true):WZ st a (.obj j) (decide (a∈l))
 | dict {j l} (e:st[j]?=some (.dict l)) (k:keyed a l):WZ st a (.obj j) (decide (a∈l.map (·.1)))
inductive C5 (st:St):CmpOp→PV→PV→Bool→Prop
 | eq {a b r} (h:XJ st a b r):C5 st .Eq a b r
 | ne {a b r} (h:XJ st a b r):C5 st .NotEq a b (!r)
 | lt (x y):C5 st .Lt (.int x) (.int y) (decide (x<y))
 | le (x y):C5 st .LtE (.int x) (.int y) (decide (x≤y))
 | gt (x y):C5 st .Gt (.int x) (.int y) (decide (y<x))
 | ge (x y):C5 st .GtE (.int x) (.int y) (decide (y≤x))
 | isin {a b r} (h:WZ st a b r):C5 st .In a b r
 | nin {a b r} (h:WZ st a b r):C5 st .NotIn a b (!r)
 | isN:C5 st .Is .none .none true
 | isO (i):C5 st .Is (.obj i) .none false
 | isI (i):C5 st .Is (.int i) .none false
 | noN:C5 st .IsNot .none .none false
 | noO (i):C5 st .IsNot (.obj i) .none true
 | noI (i):C5 st .IsNot (.int i) .none true
inductive AtW (l:List PV) (i:Int) (v:PV):Prop
 | pos (h:l.length≤100000) (p:0≤i) (e:l[i.toNat]?=some v)
 | neg (h:l.length≤100000) (p:i<0) (q:0≤i+l.length) (e:l[(i+l.length).toNat]?=some v)
noncomputable def look (l:List (PV×PV)) (k:PV):Option PV:=(l.find? fun p=>decide (p.1=k)).map (·.2)
inductive N0 (st:St):PV→PV→PV→Prop
 | tup {l i v} (h:AtW l i v):N0 st (.tup l) (.int i) v
 | list {j l i v} (e:st[j]?=some (.list l)) (h:AtW l i v):N0 st (.obj j) (.int i) v
 | dict {j l k v} (e:st[j]?=some (.dict l)) (h:keyed k l) (q:look l k=some v):N0 st (.obj j) k v
noncomputable def put (l:List (PV×PV)) (k v:PV):List (PV×PV) :=
 if (look l k).isSome then l.map fun p=>if p.1=k then (p.1,v) else p else l++[(k,v)]
noncomputable def KY (l:List (Nat×PV)) (a:Nat):Option PV:=(l.find? fun p=>p.1==a).map (·.2)
noncomputable def LI:List (Nat×PV)→Nat→PV→List (Nat×PV)
 | [],a,v=>[(a,v)]
 | p::l,a,v=>if p.1=a then (p.1,v)::l else p::LI l a v
noncomputable def EZ (lo hi:Int):List PV:=(List.range (hi-lo).toNat).map fun k:Nat=>PV.int (lo+k)
inductive C2 (st:St):PV→List PV→Prop
 | tup (l):C2 st (.tup l) l
 | rng {lo hi} (a:-1000000≤lo) (b:lo≤1000000) (c:-1000000≤hi) (d:hi≤1000000):C2 st (.rng lo hi) (EZ lo hi)
 | list {i l} (e:st[i]?=some (.list l)):C2 st (.obj i) l
noncomputable def same (v:PV) (l:List PV) (st:St):Prop:=match v with
 | .obj i=>st[i]?=some (.list l)
 | _=>True
inductive Ff (σ:Lo):PT→PV→Lo→Prop
 | one (i v):Ff σ (.one i) v (σ.set i (some v))
 | many {l vs} (h:l.length=vs.length):Ff σ (.many l) (.tup vs) ((l.zip vs).foldl (fun σ p=>σ.set p.1 (some p.2)) σ)
inductive N3 (st:St) (Q:PV→St→Prop):Bi→List PV→Prop
 | lenT {l:List PV} (h:l.length≤100000) (q:Q (.int l.length) st):N3 st Q .len [.tup l]
 | lenL {i} {l:List PV} (e:st[i]?=some (.list l)) (h:l.length≤100000) (q:Q (.int l.length) st):N3 st Q .len [.obj i]
 | lenD {i} {l:List (PV×PV)} (e:st[i]?=some (.dict l)) (k:∀ p∈l,p.1.isInt=true) (h:l.length≤100000) (q:Q (.int l.length) st):N3 st Q .len [.obj i]
 | rng1 {n} (q:Q (.rng 0 n) st):N3 st Q .range [.int n]
 | rng2 {m n} (q:Q (.rng m n) st):N3 st Q .range [.int m,.int n]
 | max2 {a b} (q:Q (.int (if a<b then b else a)) st):N3 st Q .max [.int a,.int b]
 | maxL {i} {ns:List Int} (e:st[i]?=some (.list (ns.map .int))) (h:ns≠[]) (q:∀ m∈ns,(∀ a∈ns,a≤m)→Q (.int m) st):N3 st Q .max [.obj i]
 | minL {i} {ns:List Int} (e:st[i]?=some (.list (ns.map .int))) (h:ns≠[]) (q:∀ m∈ns,(∀ a∈ns,m≤a)→Q (.int m) st):N3 st Q .min [.obj i]
 | sorted {i l} {ns:List Int} (e:st[i]?=some (.dict l)) (k:l.map (·.1)=ns.map .int) (h:ns.length<64) (q:∀ ns':List Int,ns'.Perm ns→ns'.Pairwise (·≤·)→Q (.obj st.length) (st++[.list (ns'.map .int)])):N3 st Q .sorted [.obj i]
 | all {i} {bs:List Bool} (e:st[i]?=some (.list (bs.map .bool))) (q:Q (.bool (bs.all id)) st):N3 st Q .all [.obj i]
 | tupL {i l} (e:st[i]?=some (.list l)) (h:l.length≤100000) (q:Q (.tup l) st):N3 st Q .tuple [.obj i]
 | tupT {l} (q:Q (.tup l) st):N3 st Q .tuple [.tup l]
 | str {n} (a:0≤n) (b:n≤100000) (q:Q (.str (Str.ofString (toString n))) st):N3 st Q .str [.int n]
inductive Rq (st:St) (Q:PV→St→Prop) (j:Nat):Nat→List PV→Prop
 | app {l v} (e:st[j]?=some (.list l)) (h:l.length≤100000) (q:Q .none (st.set j (.list (l++[v])))):Rq st Q j 0 [v]
 | get1 {l} {k:Int} (e:st[j]?=some (.dict l)) (h:keyed (.int k) l) (q:Q ((look l (.int k)).getD .none) st):Rq st Q j 1 [.int k]
 | get2 {l d} {k:Int} (e:st[j]?=some (.dict l)) (h:keyed (.int k) l) (q:Q ((look l (.int k)).getD d) st):Rq st Q j 1 [.int k,d]
noncomputable def Gd (elt:Lo→PM PV) (cond:Lo→PM Bool) (t:PT) (v:PV) (its:List PV) (σ:Lo):List PV→List PV→PM (List PV)
 | [],out=>fun st Q=>Q out st
 | x::xs,out=>fun st Q=>∃ σ',Ff σ t x σ'∧cond σ' st fun b st=>match b with
  | true=>elt σ' st fun y st=>same v its st∧out.length≤100000∧Gd elt cond t v its σ xs (out++[y]) st Q
  | false=>same v its st∧Gd elt cond t v its σ xs out st Q
noncomputable abbrev Ac:=PV→List PV→PM PV
structure Tx where
 mt:Nat→Nat→Option Nat
 ats:Nat→Nat→Bool
 gv:Nat→PV
inductive HR (x:Tx):List (Nat×Int)→List (PV×PV)→Prop
 | nil:HR x [] []
 | cons {g i r l} {k:Int} (e:x.gv g=.int k) (h:HR x r l):HR x ((g,i)::r) ((.int k,.int i)::l)
inductive Jl (x:Tx) (a:Nat) (st:St) (Q:PV→St→Prop):PV→Prop
 | mk {i k d l v} (e:st[i]?=some (.inst k d)) (f:st[d]?=some (.attrs l)) (h:KY l a=some v) (t:x.ats k a=true) (q:Q v st):Jl x a st Q (.obj i)
inductive Qh (st:St) (Q:PV→St→Prop) (n:Int):PV→Prop
 | list {i l} (e:st[i]?=some (.list l)) (h:l.length≤100000) (q:Q (.obj st.length) (st++[.list (l.take n.toNat)])):Qh st Q n (.obj i)
 | fl {l:List Int} (h:l.length≤100000) (q:Q (.obj st.length) (st++[.list ((l.map .int).take n.toNat)])):Qh st Q n (.fl l)
inductive MH (st:St) (Q:PV→St→Prop):PV→Int→Prop
 | tup {l} {n:Int} (a:0≤n) (b:n≤l.length) (h:l.length≤100000) (q:Q (.tup (l.drop n.toNat)) st):MH st Q (.tup l) n
 | list {i l} (e:st[i]?=some (.list l)) (h:l.length≤100000) (q:Q (.obj st.length) (st++[.list (l.drop (l.length-1))])):MH st Q (.obj i) (-1)
inductive Kr (C:Ac) (st:St) (Q:PV→St→Prop) (vs:List PV):PV→Prop
 | bi {b} (h:N3 st Q b vs):Kr C st Q vs (.bi b)
 | fn {g} (h:C g vs st Q):Kr C st Q vs g
inductive MethW (x:Tx) (C:Ac) (m:Nat) (as:PM (List PV)) (st:St) (Q:PV→St→Prop):PV→Prop
 | inst {j c d f l} (e:st[j]?=some (.inst c d)) (t:x.mt c m=some f) (e2:st[d]?=some (.attrs l)) (n:KY l m=none) (h:as st fun vs st=>C (.fn f) (.obj j::vs) st Q):MethW x C m as st Q (.obj j)
 | list {j l} (e:st[j]?=some (.list l)) (t:m=0) (h:as st fun vs st=>Rq st Q j m vs):MethW x C m as st Q (.obj j)
 | dict {j l} (e:st[j]?=some (.dict l)) (t:m=1) (h:as st fun vs st=>Rq st Q j m vs):MethW x C m as st Q (.obj j)
 | fd {l} (t:m=1) (h:as st fun vs st=>∃ (k:Int) (d:PV),vs=[.int k,d]∧Q (((l.find? fun p=>p.1==k).map fun p=>PV.int p.2).getD d) st):MethW x C m as st Q (.fd l)
mutual
noncomputable def W (x:Tx) (C:Ac):PE→Lo→PM PV
 | .loc i,σ=>fun st Q=>∃ v,σ[i]?=some (some v)∧Q v st
 | .int i,_=>fun st Q=>Q (.int i) st
 | .str y,_=>fun st Q=>Q (.str y) st
 | .bool b,_=>fun st Q=>Q (.bool b) st
 | .none,_=>fun st Q=>Q .none st
 | .gl g,_=>fun st Q=>Q (x.gv g) st
 | .tup es,σ=>fun st Q=>Ws x C es σ st fun vs st=>Q (.tup vs) st
 | .list es,σ=>fun st Q=>Ws x C es σ st fun vs st=>Q (.obj st.length) (st++[.list vs])
 | .dict es,_=>fun st Q=>∃ kvs,HR x es kvs∧kvs.length≤10∧Q (.obj st.length) (st++[.dict (kvs.foldl (fun d p=>put d p.1 p.2) [])])
 | .attr e a,σ=>fun st Q=>W x C e σ st fun o st=>Jl x a st Q o
 | .sub e i,σ=>fun st Q=>W x C e σ st fun o st=>W x C i σ st fun k st=>∃ v,N0 st o k v∧Q v st
 | .slTo e h,σ=>fun st Q=>W x C e σ st fun o st=>W x C h σ st fun k st=>∃ n:Int,k=.int n∧0≤n∧Qh st Q n o
 | .slFrom e h,σ=>fun st Q=>W x C e σ st fun o st=>W x C h σ st fun k st=>∃ n:Int,k=.int n∧MH st Q o n
 | .rev e,σ=>fun st Q=>W x C e σ st fun o st=>∃ i l,o=.obj i∧st[i]?=some (.list l)∧l.length≤100000∧Q (.obj st.length) (st++[.list l.reverse])
 | .call f as,σ=>fun st Q=>W x C f σ st fun g st=>Ws x C as σ st fun vs st=>Kr C st Q vs g
 | .meth o m as,σ=>fun st Q=>W x C o σ st fun b st=>MethW x C m (Ws x C as σ) st Q b
 | .bin op a b,σ=>fun st Q=>W x C a σ st fun u st=>W x C b σ st fun v st=>Pf st Q op u v
 | .cmp op a b,σ=>fun st Q=>W x C a σ st fun u st=>W x C b σ st fun v st=>∃ r,C5 st op u v r∧Q (.bool r) st
 | .bop op es,σ=>fun st Q=>Wb x C op es σ st Q
 | .not e,σ=>fun st Q=>W x C e σ st fun v st=>∃ b,BP st v b∧Q (.bool !b) st
 | .ite c a b,σ=>fun st Q=>T x C c (W x C c) σ st fun t st=>match t with
  | true=>W x C a σ st Q
  | false=>W x C b σ st Q
 | .comp elt t it cond,σ=>fun st Q=>W x C it σ st fun v st=>∃ its,C2 st v its∧Gd (W x C elt) (T x C cond (W x C cond)) t v its σ its [] st fun out st=>Q (.obj st.length) (st++[.list out])
 | .stuck,_=>fun _ _=>False
noncomputable def Ws (x:Tx) (C:Ac):List PE→Lo→PM (List PV)
 | [],_=>fun st Q=>Q [] st
 | e::es,σ=>fun st Q=>W x C e σ st fun v st=>Ws x C es σ st fun vs st=>Q (v::vs) st
noncomputable def Wb (x:Tx) (C:Ac) (op:BoolOp):List PE→Lo→PM PV
 | [],_=>fun _ _=>False
 | e::es,σ=>fun st Q=>W x C e σ st fun v st=>(es=[]∧Q v st)∨(es≠[]∧∃ b,BP st v b∧(b=(op==.Or)→Q v st)∧(b=!(op==.Or)→Wb x C op es σ st Q))
noncomputable def T (x:Tx) (C:Ac):PE→(Lo→PM PV)→Lo→PM Bool
 | .not e,_,σ=>fun st Q=>T x C e (W x C e) σ st fun b st=>Q (!b) st
 | .bop op es,_,σ=>fun st Q=>Tb x C op es σ st Q
 | .ite c a b,_,σ=>fun st Q=>T x C c (W x C c) σ st fun t st=>match t with
  | true=>T x C a (W x C a) σ st Q
  | false=>T x C b (W x C b) σ st Q
 | _,w,σ=>fun st Q=>w σ st fun v st=>∃ b,BP st v b∧Q b st
noncomputable def Tb (x:Tx) (C:Ac) (op:BoolOp):List PE→Lo→PM Bool
 | [],_=>fun st Q=>Q (op==.And) st
 | e::es,σ=>fun st Q=>T x C e (W x C e) σ st fun b st=>(b=(op==.Or)→Q b st)∧(b=!(op==.Or)→Tb x C op es σ st Q)
end
noncomputable def WD (K:Lo→St→Prop) (Q:Fl→Lo→St→Prop):Fl→Lo→St→Prop
 | .next=>K
 | .ret r=>Q (.ret r)
noncomputable def KW (body:Lo→St→(Fl→Lo→St→Prop)→Prop) (t:PT) (v:PV) (its:List PV):List PV→Lo→St→(Fl→Lo→St→Prop)→Prop
 | [],σ,st,Q=>Q .next σ st
 | y::ys,σ,st,Q=>∃ σ',Ff σ t y σ'∧body σ' st (WD (fun σ st=>same v its st∧KW body t v its ys σ st Q) Q)
noncomputable def QE (c:Lo→PM Bool) (body:Lo→St→(Fl→Lo→St→Prop)→Prop):Nat→Lo→St→(Fl→Lo→St→Prop)→Prop
 | 0,_,_,_=>False
 | n+1,σ,st,Q=>c σ st fun b st=>match b with
  | true=>body σ st (WD (fun σ st=>QE c body n σ st Q) Q)
  | false=>Q .next σ st
inductive Ji (st:St) (K:St→Prop) (v:PV):PV→PV→Prop
 | list {j l} {n:Int} (e:st[j]?=some (.list l)) (a:0≤n) (b:n<l.length) (h:l.length≤100000) (q:K (st.set j (.list (l.set n.toNat v)))):Ji st K v (.obj j) (.int n)
 | dict {j l k} (e:st[j]?=some (.dict l)) (a:keyed k l) (h:l.length≤100000) (q:K (st.set j (.dict (put l k v)))):Ji st K v (.obj j) k
inductive WW (x:Tx) (a:Nat) (v:PV) (st:St) (K:St→Prop):PV→Prop
 | mk {j k d l} (e:st[j]?=some (.inst k d)) (f:st[d]?=some (.attrs l)) (t:x.ats k a=true) (h:l.length≤100) (q:K (st.set d (.attrs (LI l a v)))):WW x a v st K (.obj j)
mutual
noncomputable def X (x:Tx) (C:Ac):PS→Lo→St→(Fl→Lo→St→Prop)→Prop
 | .assign i e,σ,st,Q=>W x C e σ st fun v st=>Q .next (σ.set i (some v)) st
 | .assignT l e,σ,st,Q=>W x C e σ st fun v st=>∃ σ',Ff σ (.many l) v σ'∧Q .next σ' st
 | .assign2 i j a b,σ,st,Q=>W x C a σ st fun u st=>W x C b σ st fun v st=>Q .next ((σ.set j (some v)).set i (some u)) st
 | .store o i e,σ,st,Q=>W x C e σ st fun v st=>W x C o σ st fun b st=>W x C i σ st fun k st=>Ji st (fun st=>Q .next σ st) v b k
 | .setat o a e,σ,st,Q=>W x C e σ st fun v st=>W x C o σ st fun b st=>WW x a v st (fun st=>Q .next σ st) b
 | .aug i op e,σ,st,Q=>∃ u:Int,σ[i]?=some (some (.int u))∧W x C e σ st fun v st=>∃ y z:Int,v=.int y∧intOp op u y=some z∧Q .next (σ.set i (some (.int z))) st
 | .ret e,σ,st,Q=>W x C e σ st fun v st=>Q (.ret v) σ st
 | .expr e,σ,st,Q=>W x C e σ st fun v st=>(v=.none∨v.isInt=true)∧Q .next σ st
 | .ite c t f,σ,st,Q=>T x C c (W x C c) σ st fun b st=>match b with
  | true=>Xs x C t σ st Q
  | false=>Xs x C f σ st Q
 | .loop t it body,σ,st,Q=>W x C it σ st fun v st=>∃ its,C2 st v its∧KW (Xs x C body) t v its its σ st Q
 | .whl c body,σ,st,Q=>QE (T x C c (W x C c)) (Xs x C body) 64 σ st Q
 | .stuck,_,_,_=>False
noncomputable def Xs (x:Tx) (C:Ac):List PS→Lo→St→(Fl→Lo→St→Prop)→Prop
 | [],σ,st,Q=>Q .next σ st
 | s::r,σ,st,Q=>X x C s σ st (WD (fun σ st=>Xs x C r σ st Q) Q)
end
structure Fn where
 np:Nat
 dflt:List PV
 slots:Nat
 body:List PS
noncomputable def Fn.start (f:Fn) (as:List PV):Lo:=(as++f.dflt.drop (f.dflt.length-(f.np-as.length))).map some++List.replicate (f.slots-f.np) none
structure Pd extends Tx where
 fn:Nat→Option Fn
 init:Nat→Option Nat
noncomputable def back (Q:PV→St→Prop):Fl→Lo→St→Prop
 | .ret v,_,st=>Q v st
 | .next,_,st=>Q .none st
inductive Kt (t:Pd) (C:Ac) (as:List PV) (st:St) (Q:PV→St→Prop):PV→Prop
 | fn {i f} (e:t.fn i=some f) (a:as.length≤f.np) (b:f.np≤as.length+f.dflt.length) (h:Xs t.toTx C f.body (f.start as) st (back Q)):Kt t C as st Q (.fn i)
 | cls {c i} (e:t.init c=some i) (h:C (.fn i) (.obj (st.length+1)::as) (st++[.attrs [],.inst c st.length]) fun r st'=>r=.none∧Q (.obj (st.length+1)) st'):Kt t C as st Q (.cls c)
noncomputable def Call (t:Pd):Nat→Ac
 | 0=>fun _ _ _ _=>False
 | n+1=>fun g as st Q=>Kt t (Call t n) as st Q g
end
end Mine
end
section
namespace Mine
open PySem
open scoped Classical
theorem LC (s:Shared) (g:Nat) (x:GenState):(s.setGen g x).heap=s.heap:=rfl
theorem G7 {M:Model} {Γ:Ctx} {p:Pos} {t:Sem Fin} {fs:List Frame} {s s':Shared} {e:End} (h:Runs M Γ p t fs s e s'):s.heap.objs.size≤s'.heap.objs.size:=by
 induction h<;>(try simp only [LC,Heap.size_update,Heap.size_push] at *)<;>omega
theorem N5 {M:Model} {Γ:Ctx} {p:Pos} {g:Nat} {r:Resume} {s s':Shared} {res:GenResult} (h:Wakes M Γ p g r s res s'):s.heap.objs.size≤s'.heap.objs.size:=by
 unfold Wakes at h
 split at h
 ·exact h.elim
 ·split at h
  ·refine oEEAAA h fun e₁ s₁ hr _ _ z0=>?_;subst z0;exact (G7 hr:(s.setGen g .running).heap.objs.size≤s₁.heap.objs.size)
  ·rw [h.2];exact Nat.le_refl _
  ·rw [h.2];exact Nat.le_refl _
 ·refine oEEAAA h fun e₁ s₁ hr _ _ z0=>?_;subst z0;exact (G7 hr:(s.setGen g .running).heap.objs.size≤s₁.heap.objs.size)
 ·rw [h.2];exact Nat.le_refl _
 ·rw [h.2];exact Nat.le_refl _
open Sem (wp) in
theorem U4 {α:Type} (M:Model) (Γ:Ctx) (n:Nat) (t:Sem α):∀ (Q:α→Pos→Shared→Prop) (E:Value→Pos→Shared→Prop) (p:Pos) (s:Shared),n≤s.heap.objs.size→wp M Γ t Q E p s →
  wp M Γ t (fun a p' s'=>n≤s'.heap.objs.size∧Q a p' s') (fun e p' s'=>n≤s'.heap.objs.size∧E e p' s') p s:=by
 induction t with
 | pure a=>intro Q E p s hn h;exact ⟨hn,h⟩
 | raise e=>intro Q E p s hn h;exact ⟨hn,h⟩
 | unsupported _=>intro Q E p s _ h;exact h
 | finish _=>intro Q E p s _ h;exact h
 | rule _ k ih=>intro Q E p s hn h;exact ih () Q E p s hn h
 | «at» p' k ih=>intro Q E p s hn h;exact ih () Q E p' s hn h
 | load a _ k ih=>intro Q E p s hn h;refine oEA h fun o ho h=>?_;exact ⟨o,ho,ih o Q E p s hn h⟩
 | update a _ f k ih=>intro Q E p s hn h;exact ⟨h.1,ih () Q E p _ (by simp only [Heap.size_update];exact hn) h.2⟩
 | loadIfAlive a k ih=>intro Q E p s hn h;exact ih _ Q E p s hn h
 | point _ k ih=>intro Q E p s hn h;exact ih () Q E p s hn h
 | register _ _=>intro Q E p s _ h;exact h
 | alloc o k ih=>intro Q E p s hn h;exact ih _ Q E p _ (by simp only [Heap.size_push];exact Nat.le_succ_of_le hn) h
 | fresh k ih=>intro Q E p s hn h;exact ih _ Q E p _ hn h
 | ask k ih=>intro Q E p s hn h;exact ih _ Q E p s hn h
 | choose src m k ih=>intro Q E p s hn h;exact ⟨h.1,ih _ Q E p _ hn h.2⟩
 | os q _ k ih=>intro Q E p s hn h;exact ih _ Q E p _ hn h
 | call c hd _ _ k ih=>intro Q E p s hn h;refine oEEA h fun r s' hr h=>?_;exact ⟨r,s',hr,ih r Q E p s' (Nat.le_trans hn (G7 hr)) h⟩
 | handled own k ih=>intro Q E p s hn h;exact ih _ Q E p s hn h
 | genState g k ih=>intro Q E p s hn h;refine oEA h fun st hs h=>?_;exact ⟨st,hs,ih _ Q E p s hn h⟩
 | newGen c k ih=>intro Q E p s hn h;exact ih _ Q E p _ hn h
 | resume g r _ k ih=>intro Q E p s hn h;refine oEEA h fun res s' hw h=>?_;exact ⟨res,s',hw,ih res Q E p s' (Nat.le_trans hn (N5 hw)) h⟩
 | yield _ _ _ _=>intro Q E p s _ h;exact h
 | stack k ih=>intro Q E p s hn h;exact ih _ Q E p s hn h
 | fork _ _=>intro Q E p s _ h;exact h
 | thread k ih=>intro Q E p s hn h;exact ih _ Q E p s hn h
 | await _ _ _ _ _=>intro Q E p s _ h;exact h
theorem AY {α:Type} {M:Model} {A:Around} {s:Shared} {t:Sem α} {Q:α→Shared→Prop} {E:Value→Shared→Prop}
  (h:wpAny M A t (fun a s'=>s.heap.objs.size≤s'.heap.objs.size→Q a s') (fun e s'=>s.heap.objs.size≤s'.heap.objs.size→E e s') s):wpAny M A t Q E s :=
 by
 have h2:wpAny M A t (fun a s'=>s.heap.objs.size≤s'.heap.objs.size∧(s.heap.objs.size≤s'.heap.objs.size→Q a s')) (fun e s'=>s.heap.objs.size≤s'.heap.objs.size∧(s.heap.objs.size≤s'.heap.objs.size→E e s')) s :=
  fun Γ p hΓ=>U4 M Γ s.heap.objs.size t _ _ p s (Nat.le_refl _) (h Γ p hΓ)
 exact wpAny_mono h2 (fun _ _ x=>x.2 x.1) (fun _ _ x=>x.2 x.1)
end Mine
end
section
namespace Mine
open PySem PySem.W PyProof.Rows PySem.Spec
open scoped Classical
open Sem (wp)
inductive Fe (h:Heap):Option (Value→PV→Prop)→Value→PV→Prop
 | int {F i t}:Fe h F (.int i t) (.int i)
 | str {F x t} (o:PyData.strOk x=true):Fe h F (.str x t) (.str x)
 | tup {F ks a vs} (t:h.IsTuple a (List.toArray vs)) (p:Paired F vs ks):Fe h (some F) (.ref a) (.tup ks)
noncomputable def PR (h:Heap):Nat→Value→PV→Prop
 | 0=>Fe h none
 | n+1=>Fe h (some (PR h n))
inductive E1:Option (PV→PyData→Prop)→PV→PyData→Prop
 | int {F i}:E1 F (.int i) (.int i)
 | str {F x}:E1 F (.str x) (.str x)
 | tup {F ks ds} (p:Paired F ks ds):E1 (some F) (.tup ks) (.tuple ds)
noncomputable def Pl:Nat→PV→PyData→Prop
 | 0=>E1 none
 | n+1=>E1 (some (Pl n))
theorem PR.int {h:Heap} {n:Nat} {i:Int} {t:Tok}:PR h n (.int i t) (.int i):=by cases n<;>exact Fe.int
theorem PR.str {h:Heap} {n:Nat} {x:Str} {t:Tok} (o:PyData.strOk x=true):PR h n (.str x t) (.str x):=by cases n<;>exact Fe.str o
theorem Pl.int {n:Nat} {i:Int}:Pl n (.int i) (.int i):=by cases n<;>exact E1.int
theorem Pl.str {n:Nat} {x:Str}:Pl n (.str x) (.str x):=by cases n<;>exact E1.str
theorem PR.of {h:Heap} {n:Nat} {v:Value} {x:PV} (p:PR h n v x):∃ F,Fe h F v x:=by cases n<;>exact ⟨_,p⟩
theorem Pl.of {n:Nat} {v:PV} {x:PyData} (p:Pl n v x):(∃ i,v=.int i∧x=.int i)∨(∃ i,v=.str i∧x=.str i)∨∃ m ks ds,v=.tup ks∧x=.tuple ds∧Paired (Pl m) ks ds:=by
 cases n with
 | zero=>cases p with
  | int=>exact .inl ⟨_,rfl,rfl⟩
  | str=>exact .inr (.inl ⟨_,rfl,rfl⟩)
 | succ n=>cases p with
  | int=>exact .inl ⟨_,rfl,rfl⟩
  | str=>exact .inr (.inl ⟨_,rfl,rfl⟩)
  | tup p=>exact .inr (.inr ⟨_,_,_,rfl,rfl,p⟩)
mutual
noncomputable def QM (w:World):PV→Int
 | .int i=>hashInt i
 | .str x=>hashStr w x
 | .tup l=>reduceHash (Builtin.Tuple.tupleHashOf (EK w l))
 | _=>0
noncomputable def EK (w:World):List PV→List Int
 | []=>[]
 | x::l=>QM w x::EK w l
end
mutual
noncomputable def JX:PV→Nat
 | .int _=>1
 | .str _=>1
 | .tup l=>HK l+1
 | _=>0
noncomputable def HK:List PV→Nat
 | []=>0
 | x::l=>JX x+HK l
end
theorem Paired.imp {α β:Type} {F G:α→β→Prop} (hfg:∀ a b,F a b→G a b):∀ {l₁:List α} {l₂:List β},Paired F l₁ l₂→Paired G l₁ l₂:=by
 intro l₁ l₂ p
 induction p with
 | nil=>exact .nil
 | cons h _ t=>exact .cons (hfg _ _ h) t
theorem PR.ind {h:Heap} {M:Nat→Value→PV→Prop} (hi:∀ n i t,M n (.int i t) (.int i)) (hs:∀ n x t,PyData.strOk x=true→M n (.str x t) (.str x))
  (ht:∀ n ks a vs,h.IsTuple a (List.toArray vs)→Paired (fun v k=>PR h n v k∧M n v k) vs ks→M (n+1) (.ref a) (.tup ks)):∀ n v x,PR h n v x→M n v x:=by
 intro n
 induction n with
 | zero =>
  intro v x p
  cases p with
  | int=>exact hi _ _ _
  | str o=>exact hs _ _ _ o
 | succ n ih =>
  intro v x p
  cases p with
  | int=>exact hi _ _ _
  | str o=>exact hs _ _ _ o
  | tup t p=>exact ht _ _ _ _ t (Paired.imp (fun _ _ q=>⟨q,ih _ _ q⟩) p)
theorem PR.tup_ {h:Heap} {n:Nat} {v:Value} {ks:List PV} (x:PR h n v (.tup ks)):∃ a,v=.ref a:=by refine oE (x.of) fun F x=>?_;cases x with | tup t p=>exact ⟨_,rfl⟩
theorem Pl.ind {M:Nat→PV→PyData→Prop} (hi:∀ n i,M n (.int i) (.int i)) (hs:∀ n x,M n (.str x) (.str x))
  (ht:∀ n ks ds,Paired (M n) ks ds→M (n+1) (.tup ks) (.tuple ds)):∀ n x d,Pl n x d→M n x d:=by
 intro n
 induction n with
 | zero =>
  intro v x p
  cases p with
  | int=>exact hi _ _
  | str=>exact hs _ _
 | succ n ih =>
  intro v x p
  cases p with
  | int=>exact hi _ _
  | str=>exact hs _ _
  | tup p=>exact ht _ _ _ (Paired.imp (fun _ _ q=>ih _ _ q) p)
theorem PR.keeps {h h':Heap} (k:∀ a items,h.IsTuple a items→h'.IsTuple a items):∀ (n:Nat) (v:Value) (x:PV),PR h n v x→PR h' n v x :=
 PR.ind (fun _ _ _=>.int) (fun _ _ _ o=>.str o) fun _ _ _ _ t p=>Fe.tup (k _ _ t) (Paired.imp (fun _ _ q=>q.2) p)
theorem NK {h:Heap} {a:Addr} {x y:Array Value} (p:h.IsTuple a x) (q:h.IsTuple a y):x=y:=by
 refine oEAAE p fun o ho _ n hd=>?_
 refine oEAAE q fun o' ho' _ n' hd'=>?_
 have e:=hd.symm.trans ((congrArg Obj.data (Option.some.inj (ho.symm.trans ho'))).trans hd')
 exact (Data.seq.inj e).1
theorem Paired.inj {α β γ:Type} {F:α→β→Prop} {G:α→γ→Prop} {R:β→γ→Prop} (hfg:∀ a b c,F a b→G a c→R b c):∀ {l:List α} {m:List β},Paired F l m→∀ {n:List γ},Paired G l n→Paired R m n:=by
 intro l m p
 induction p with
 | nil=>intro n q;cases q;exact .nil
 | cons h _ ih=>intro n q;cases q with | cons h' t'=>exact .cons (hfg _ _ _ h h') (ih t')
theorem Paired.eq {α:Type} {l m:List α} (p:Paired (·=·) l m):l=m:=by
 induction p with
 | nil=>rfl
 | cons h _ t=>rw [h,t]
theorem PR.inj {h:Heap}:∀ (n:Nat) (v:Value) (x:PV),PR h n v x→∀ (m:Nat) (y:PV),PR h m v y→x=y :=
 PR.ind (fun _ _ _ _ _ q=>by refine oE (q.of) fun F q=>?_;cases q;rfl) (fun _ _ _ _ _ _ q=>by refine oE (q.of) fun F q=>?_;cases q;rfl) fun n ks a vs t p m y q=>by
  cases m with
  | zero=>cases q
  | succ m=>cases q with
   | @tup _ _ _ vs' t' p' =>
    have e:vs=vs':=congrArg Array.toList (NK t t')
    rw [←e] at p'
    exact congrArg PV.tup (Paired.eq (Paired.inj (fun _ _ _ q r=>q.2 _ _ r) p p'))
theorem dataL {h:Heap} {n:Nat}:∀ {vs:List Value} {ks:List PV},Paired (fun v k=>∃ d as,Pl n k d∧Reads h v d as∧d.canLay0=true∧d.depth≤n) vs ks →
  ∃ ds as,Paired (Pl n) ks ds∧ReadsAll h vs ds as∧PyData.canLayAll0 ds=true∧PyData.depthAll ds≤n:=by
 intro vs ks p
 induction p with
 | nil=>exact ⟨[],[],.nil,.nil,rfl,Nat.zero_le _⟩
 | cons q _ ih =>
  refine oEEAAA q fun d as a1 a2 a3 a4=>?_
  refine oEEAAA ih fun ds bs b1 b2 b3 b4=>?_
  exact ⟨d::ds,as++bs,.cons a1 b1,.cons a2 b2,Bool.and_eq_true_iff.mpr ⟨a3,b3⟩,Nat.max_le.mpr ⟨a4,b4⟩⟩
theorem PR.data {h:Heap}:∀ (n:Nat) (v:Value) (x:PV),PR h n v x→∃ d as,Pl n x d∧Reads h v d as∧d.canLay0=true∧d.depth≤n :=
 PR.ind (fun _ _ _=>⟨_,_,.int,.int _ _,rfl,Nat.zero_le _⟩) (fun _ _ _ o=>⟨_,_,.str,.str _ _,o,Nat.zero_le _⟩) fun n ks a vs t p=>by
  refine oEEAAA (dataL (Paired.imp (fun _ _ q=>q.2) p)) fun ds as a1 a2 a3 a4=>?_
  refine oEAAE t fun o ho hc k hd=>?_
  exact ⟨_,as,E1.tup a1,reads_tuple_at ho hc hd a2,a3,Nat.succ_le_succ a4⟩
theorem PR.dataL {h:Heap} {n:Nat} {vs:List Value} {ks:List PV} (p:Paired (PR h n) vs ks):∃ ds as,Paired (Pl n) ks ds∧ReadsAll h vs ds as∧PyData.canLayAll0 ds=true∧PyData.depthAll ds≤n :=
 Mine.dataL (Paired.imp (fun _ _ q=>q.data) p)
theorem Zg {m:Nat} {ks:List PV} {ds:List PyData} (p:Paired (fun x d=>∀ m y e,Pl m y e→(PyData.eqv d e=true↔x=y)) ks ds):∀ {ks':List PV} {ds':List PyData},Paired (Pl m) ks' ds'→(PyData.eqvAll ds ds'=true↔ks=ks'):=by
 induction p with
 | nil=>intro ks' ds' q;cases q with
  | nil=>exact ⟨fun _=>rfl,fun _=>rfl⟩
  | cons _ _=>exact ⟨nofun,nofun⟩
 | cons h _ ih=>intro ks' ds' q;cases q with
  | nil=>exact ⟨nofun,nofun⟩
  | cons a b =>
   refine Bool.and_eq_true_iff.trans ⟨fun e=>?_,fun e=>?_⟩
   ·rw [(h _ _ _ a).mp e.1,(ih b).mp e.2]
   ·exact ⟨(h _ _ _ a).mpr (List.cons.inj e).1,(ih b).mpr (List.cons.inj e).2⟩
theorem Pl.eqv:∀ (n:Nat) (x:PV) (d:PyData),Pl n x d→∀ (m:Nat) (y:PV) (e:PyData),Pl m y e→(PyData.eqv d e=true↔x=y) :=
 Pl.ind (fun n i m y e q=>by
   rcases q.of with ⟨j,rfl,rfl⟩ | ⟨j,rfl,rfl⟩ | ⟨_,_,_,rfl,rfl,_⟩
   ·exact ⟨fun h=>congrArg PV.int (eq_of_beq h),fun h=>beq_of_eq (PV.int.inj h)⟩
   ·exact ⟨nofun,nofun⟩
   ·exact ⟨nofun,nofun⟩)
  (fun n i m y e q=>by
   rcases q.of with ⟨j,rfl,rfl⟩ | ⟨j,rfl,rfl⟩ | ⟨_,_,_,rfl,rfl,_⟩
   ·exact ⟨nofun,nofun⟩
   ·exact ⟨fun h=>congrArg PV.str (eq_of_beq h),fun h=>beq_of_eq (PV.str.inj h)⟩
   ·exact ⟨nofun,nofun⟩)
  fun n ks ds p m y e q=>by
   rcases q.of with ⟨j,rfl,rfl⟩ | ⟨j,rfl,rfl⟩ | ⟨_,_,_,rfl,rfl,r⟩
   ·exact ⟨nofun,nofun⟩
   ·exact ⟨nofun,nofun⟩
   ·exact (Zg p r).trans ⟨fun h=>congrArg PV.tup h,fun h=>PV.tup.inj h⟩
theorem Nl {b:Bool} {p:Prop} [Decidable p] (h:b=true↔p):b=decide p:=by
 cases b with
 | true=>exact (decide_eq_true (h.mp rfl)).symm
 | false=>exact (decide_eq_false fun q=>nomatch h.mpr q).symm
theorem IH {n m:Nat} {x y:PV} {d e:PyData} (p:Pl n x d) (q:Pl m y e):PyData.eqv d e=decide (x=y):=Nl (Pl.eqv _ _ _ p _ _ _ q)
theorem PH {n m:Nat} {x y:List PV} {d e:List PyData} (p:Paired (Pl n) x d) (q:Paired (Pl m) y e):PyData.eqvAll d e=decide (x=y):=Nl (Zg (Paired.imp (fun _ _ q=>Pl.eqv _ _ _ q) p) q)
theorem PR.plain {h:Heap}:∀ (n:Nat) (v:Value) (x:PV),PR h n v x→Ad n x=true :=
 PR.ind (fun n _ _=>by cases n<;>rfl) (fun n _ _ o=>by cases n<;>exact o) fun n ks a vs t p=>by
  clear t
  show ks.all (Ad n)=true
  induction p with
  | nil=>rfl
  | cons h _ ih=>exact Bool.and_eq_true_iff.mpr ⟨h.2,ih⟩
section
variable {prog:Program} {w:World}
noncomputable def Uz (prog:Program) (w:World) (h:Heap) (n:Nat) (v:Value) (k:PV):Prop:=∀ (A:Around) (E:Value→Shared→Prop) (s:Shared) (Q:Int→Shared→Prop),s.heap=h→A.units+n<cLine →
  Q (QM w k) { s with toks:=s.toks+JX k }→wpAny (model prog w) A (pyHash v) Q E s
theorem RC {h:Heap}:∀ (n:Nat) (v:Value) (k:PV),PR h n v k→Uz prog w h n v k :=
 PR.ind (fun _ _ _ _ _ _ _ _ _ h=>wpAny_pyHash_int h) (fun _ _ _ _ _ _ _ _ _ _ h=>wpAny_pyHash_str h) fun n ks a vs ht hi A E s Q hs hu h=>by
  subst hs
  have hT:s.TypeIs (.ref a) "tuple":=ht.typeIs
  refine oEAAE ht fun o ho hc nn hd=>?_
  have hu1:A.units<cLine:=Nat.lt_of_le_of_lt (Nat.le_add_right _ _) hu
  unfold pyHash
  first | unfold pyHashByItsType | skip
  first | refine wpAny_bind (wpAny_cRoomFor_or (.inr hu1) ?_) | skip
  refine wpAny_bind (wpAny_specialOf hT F.slot_tuple_hash.lookup ?_)
  show wpAny _ _ (if (some (Value.builtin "tuple.__hash__")==some Value.none)=true then _ else _) Q E s
  rw [if_neg (by rw [beq_builtin_none];exact Bool.false_ne_true)]
  refine wpAny_bind (wpAny_specialOf hT F.slot_tuple_hash.lookup ?_)
  show wpAny _ _ (callSpecialIfBoundUnlessNone? (.ref a) "__hash__" _ >>= _) Q E s
  refine wpAny_bind (wpAny_callSpecialIfBoundUnlessNone?_slot hT F.slot_tuple_hash (wpAny_call_entry F.slot_tuple_hash hT F.entry_tuple_hash ?_ (F.args_tuple_hash_1 _)))
  show wpAny _ _ (Builtin.Tuple.tupleItemsOf (.ref a) >>= _) _ _ s
  refine wpAny_bind (wpAny_tupleItemsOf ho hd ?_)
  refine wpAny_bind ?_
  rw [←Array.forIn_toList]
  refine wpAny_forIn_list _
   (fun rest (b:Array Int) s'=>∃ left t,Paired (fun v k=>PR s.heap n v k∧Uz prog w s.heap n v k) rest left∧b.toList++EK w left=EK w ks∧t+HK left=s.toks+HK ks∧s'={ s with toks:=t })
   _ ?_ ?_ _ _ ⟨ks,s.toks,hi,rfl,rfl,rfl⟩
  ·refine fun x rest b s' z0=>oEEAAA z0 fun left t hl hb ht z1=>?_;subst z1
   cases hl with
   | @cons _ k _ ks' h1 hl' =>
    have hb2:(b.push (QM w k)).toList++EK w ks'=EK w ks:=by rw [Array.toList_push,List.append_assoc];exact hb
    refine wpAny_bind (h1.2 A.in1 _ _ _ rfl (by show A.units+1+n<cLine;omega) ?_)
    first
     | exact wpAny_pure ⟨ks',t+JX k,hl',hb2,(Nat.add_assoc _ _ _).trans ht,rfl⟩
     | exact wpAny_bind (wpAny_pure (wpAny_pure ⟨ks',t+JX k,hl',hb2,(Nat.add_assoc _ _ _).trans ht,rfl⟩))
  ·refine fun b s' z0=>oEEAAA z0 fun left t hl hb ht z1=>?_;subst z1
   cases hl
   have hb:b.toList=EK w ks:=(List.append_nil _).symm.trans hb
   have ht:t=s.toks+HK ks:=ht
   subst ht
   show wpAny _ _ (retInt (Builtin.Tuple.tupleHashOf b.toList)) _ _ _
   rw [hb]
   refine wpAny_ret_mkInt ?_
   show wpAny _ _ (if (decide (-(2:Int) ^ 63≤Builtin.Tuple.tupleHashOf (EK w ks))&&decide (Builtin.Tuple.tupleHashOf (EK w ks)<2 ^ 63))=true then _ else _) Q E _
   have h:Q (reduceHash (Builtin.Tuple.tupleHashOf (EK w ks))) { s with toks:=s.toks+HK ks+1 }:=h
   unfold reduceHash at h
   by_cases hr:(decide (-(2:Int) ^ 63≤Builtin.Tuple.tupleHashOf (EK w ks))&&decide (Builtin.Tuple.tupleHashOf (EK w ks)<2 ^ 63))=true
   ·rw [if_pos hr] at h ⊢
    exact wpAny_pure h
   ·rw [if_neg hr] at h ⊢
    exact wpAny_bind (wpAny_rule (wpAny_pure h))
noncomputable def Qi (prog:Program) (w:World) (h:Heap) (n:Nat) (v:Value) (k:PV):Prop:=∀ (m:Nat) (A:Around) (E:Value→Shared→Prop) (s:Shared) (Q:Bool→Shared→Prop),s.heap=h→n≤m→Q true s→wpAny (model prog w) A (eqIsQuiet m v) Q E s
theorem TH {h:Heap}:∀ (n:Nat) (v:Value) (k:PV),PR h n v k→Qi prog w h n v k :=
 PR.ind (fun _ _ _ m _ _ _ _ _ _ h=>by cases m<;>exact wpAny_pure h) (fun _ _ _ _ m _ _ _ _ _ _ h=>by cases m<;>exact wpAny_pure h) fun n ks a vs ht hi m A E s Q hs hm h=>by
  subst hs
  cases m with
  | zero=>exact absurd hm (Nat.not_succ_le_zero _)
  | succ m =>
   have hT:s.TypeIs (.ref a) "tuple":=ht.typeIs
   refine oEAAE ht fun o ho hc nn hd=>?_
   unfold eqIsQuiet
   refine wpAny_bind (wpAny_specialOf hT F.slot_tuple_eq.lookup ?_)
   show wpAny _ _ (isInstance (.ref a) (.type "tuple") >>= _) _ _ s
   refine wpAny_bind (wpAny_isInstance hT isSubtype_tuple_tuple ?_)
   rw [if_neg (by decide)]
   refine wpAny_bind (wpAny_seqItems ho hd ?_)
   refine wpAny_bind ?_
   show wpAny _ _ (forIn vs.toArray _ _) _ _ s
   rw [←Array.forIn_toList]
   refine wpAny_forIn_list _ (fun rest r s'=>r.1=none∧s'=s∧∃ left,Paired (fun v k=>PR s.heap n v k∧Qi prog w s.heap n v k) rest left) _ ?_ ?_ _ _ ⟨rfl,rfl,_,hi⟩
   ·refine fun v rest r s' z0=>oAAE z0 fun hr z1 left hl=>?_;subst z1
    cases hl with
    | cons h1 hl' =>
     refine wpAny_bind (h1.2 m _ _ _ _ rfl (Nat.le_of_succ_le_succ hm) ?_)
     rw [if_neg (by decide)]
     exact wpAny_pure ⟨rfl,rfl,_,hl'⟩
   ·rintro ⟨r1,r2⟩ s' ⟨hr,rfl,_⟩
    have hr:r1=none:=hr
    subst hr
    exact wpAny_pure h
section
variable {n:Nat} {A:Around} {E:Value→Shared→Prop} {s:Shared} {u v:Value} {x y:PV}
theorem Fj {a b c:Nat} (h:a+b<c) {d e:Nat} (q:d≤b):a+min d e<c:=Nat.lt_of_le_of_lt (Nat.add_le_add_left (Nat.le_trans (Nat.min_le_left _ _) q) _) h
theorem Rf {Q:Bool→Shared→Prop} (hu:A.units+n<cLine) (p:PR s.heap n u x) (q:PR s.heap n v y)
  (h:Q (decide (x=y)) s):wpAny (model prog w) A (eqBool u v) Q E s:=by
 refine oEEAAA (p.data) fun d as a1 a2 a3 a4=>?_
 refine oEEAAA (q.data) fun e bs b1 b2 b3 b4=>?_
 refine SeqAt.eqBoolOverData prog w A E s u v _ _ as bs Q a2 b2 a3 b3 (Fj hu a4) ?_
 rw [IH a1 b1];exact h
theorem UT {Q:Value→Shared→Prop} (hu:A.units+n<cLine) (p:PR s.heap n u x) (q:PR s.heap n v y)
  (h:Q (.bool (decide (x=y))) s):wpAny (model prog w) A (compareOp .Eq u v) Q E s:=by
 refine oEEAAA (p.data) fun d as a1 a2 a3 a4=>?_
 refine oEEAAA (q.data) fun e bs b1 b2 b3 b4=>?_
 refine SeqAt.compareEq_reads a2 b2 a3 b3 (Fj hu a4) ?_
 rw [IH a1 b1];exact h
theorem US {Q:Value→Shared→Prop} (hu:A.units+n<cLine) (p:PR s.heap n u x) (q:PR s.heap n v y)
  (h:Q (.bool (!decide (x=y))) s):wpAny (model prog w) A (compareOp .NotEq u v) Q E s:=by
 refine oEEAAA (p.data) fun d as a1 a2 a3 a4=>?_
 refine oEEAAA (q.data) fun e bs b1 b2 b3 b4=>?_
 refine SeqAt.compareNe_reads a2 b2 a3 b3 (Fj hu a4) ?_
 rw [IH a1 b1];exact h
end
noncomputable def Ii (prog:Program) (w:World):HeapKind prog w PV where
 is:=fun h k a=>(∃ l,k=.tup l)∧PR h 6 (.ref a) k
 hash:=QM w
 draws:=JX
 room:=fun A=>A.units+6<cLine
 inj:=fun hx hy=>PR.inj _ _ _ hx.2 _ _ hy.2
 keeps:=fun {h h' k a d o es ep} hx ho hd hs=>⟨hx.1,PR.keeps (fun b items ⟨ob,hb,hc,n,hdb⟩=>⟨ob,(hs.2 b (by
  rintro rfl
  obtain rfl:ob=o:=Option.some.inj (hb.symm.trans ho)
  rw [hd] at hdb;exact nomatch hdb)).trans hb,hc,n,hdb⟩) _ _ _ hx.2⟩
 pyHash:=fun hu hk h=>RC _ _ _ hk.2 _ _ _ _ rfl hu h
 eqBool:=fun hu hx hy h=>Rf hu hx.2 hy.2 h
 quiet:=fun hk h=>TH _ _ _ hk.2 8 _ _ _ _ rfl (by decide) h
end
end Mine
end
section
namespace Mine
open PySem PySem.W PyProof.Rows PySem.Spec
open scoped Classical
structure Cx where
 prog:Program
 w:World
 K:Frag
 B:Heap
 fnV:Nat→Option Addr
 clsV:Nat→Option Addr
 an:List Str
noncomputable def Cx.m (c:Cx):Model:=model c.prog c.w
noncomputable def L7:Bi→Value
 | .len=>.builtin "len"
 | .range=>.type "range"
 | .min=>.builtin "min"
 | .max=>.builtin "max"
 | .sorted=>.builtin "sorted"
 | .all=>.builtin "all"
 | .tuple=>.type "tuple"
 | .str=>.type "str"
noncomputable def FdR:List (Int×Int)→List (Int×Value)→Prop
 | [],[]=>True
 | p::l,q::r=>p.1=q.1∧(∃ t,q.2=.int p.2 t)∧FdR l r
 | _,_=>False
mutual
noncomputable def RV (c:Cx) (h:Heap) (ρ:List Addr):PV→Value→Prop
 | .none,v=>v=.none
 | .bool b,v=>v=.bool b
 | .int i,v=>∃ t,v=.int i t
 | .str x,v=>∃ t,v=.str x t
 | .tup ks,v=>∃ a vs,v=.ref a∧h.IsTuple a (List.toArray vs)∧a∉ρ∧AQ c h ρ ks vs
 | .rng lo hi,v=>∃ a t u x,v=.ref a∧IsRange h a lo hi 1 t u x∧a∉ρ
 | .obj i,v=>∃ a,v=.ref a∧ρ[i]?=some a
 | .fn i,v=>∃ a,c.fnV i=some a∧v=.ref a
 | .cls i,v=>∃ C,c.clsV i=some C∧v=.ref C
 | .bi b,v=>v=L7 b
 | .fd l,v=>∃ a kvs,v=.ref a∧c.B.DictOf (intKind c.prog c.w) a kvs∧(a==sysModules)=false∧FdR l kvs
 | .fl l,v=>∃ a vs,v=.ref a∧c.B.IsList a (List.toArray vs)∧IntsAre vs l
noncomputable def AQ (c:Cx) (h:Heap) (ρ:List Addr):List PV→List Value→Prop
 | [],vs=>vs=[]
 | k::ks,vs=>∃ v r,vs=v::r∧RV c h ρ k v∧AQ c h ρ ks r
end
theorem AQ.nil {c:Cx} {h:Heap} {ρ:List Addr}:AQ c h ρ [] []:=(rfl:_=_)
theorem AQ.cons {c:Cx} {h:Heap} {ρ:List Addr} {k:PV} {ks:List PV} {v:Value} {vs:List Value} (a:RV c h ρ k v) (b:AQ c h ρ ks vs):AQ c h ρ (k::ks) (v::vs) :=
 (⟨v,vs,rfl,a,b⟩:∃ v' r,v::vs=v'::r∧RV c h ρ k v'∧AQ c h ρ ks r)
theorem AQ.uncons {c:Cx} {h:Heap} {ρ:List Addr} {k:PV} {ks:List PV} {vs:List Value} (x:AQ c h ρ (k::ks) vs):∃ v r,vs=v::r∧RV c h ρ k v∧AQ c h ρ ks r:=x
theorem AQ.unnil {c:Cx} {h:Heap} {ρ:List Addr} {vs:List Value} (x:AQ c h ρ [] vs):vs=[]:=x
section
variable {c:Cx} {h:Heap} {ρ:List Addr}
theorem Cl {i:Int} {t:Tok}:RV c h ρ (.int i) (.int i t):=by show ∃ t',_=Value.int i t';exact ⟨t,rfl⟩
theorem S9 {i:Str} {t:Tok}:RV c h ρ (.str i) (.str i t):=by show ∃ t',_=Value.str i t';exact ⟨t,rfl⟩
theorem H7 {b:Bool}:RV c h ρ (.bool b) (.bool b):=(rfl:Value.bool b=.bool b)
theorem GH:RV c h ρ .none .none:=(rfl:Value.none=.none)
theorem G6 {i:Nat} {a:Addr} (e:ρ[i]?=some a):RV c h ρ (.obj i) (.ref a):=by show ∃ a',_=Value.ref a'∧_=some a';exact ⟨a,rfl,e⟩
theorem LD {ks:List PV} {a:Addr} {vs:List Value} (t:h.IsTuple a (List.toArray vs)) (n:a∉ρ) (r:AQ c h ρ ks vs):RV c h ρ (.tup ks) (.ref a):=by
 show ∃ a' vs,_=Value.ref a'∧h.IsTuple a' (List.toArray vs)∧a'∉ρ∧AQ c h ρ ks vs;exact ⟨a,vs,rfl,t,n,r⟩
theorem OO {lo hi:Int} {a:Addr} {t u x:Tok} (r:IsRange h a lo hi 1 t u x) (n:a∉ρ):RV c h ρ (.rng lo hi) (.ref a):=by
 show ∃ a' t u x,_=Value.ref a'∧IsRange h a' lo hi 1 t u x∧a'∉ρ;exact ⟨a,t,u,x,rfl,r,n⟩
theorem Py {i:Nat} {a:Addr} (e:c.fnV i=some a):RV c h ρ (.fn i) (.ref a):=by show ∃ a',_=some a'∧_=Value.ref a';exact ⟨a,e,rfl⟩
theorem int_at {i:Int} {v:Value} (r:RV c h ρ (.int i) v):∃ t,v=.int i t:=r
theorem IU {l:List PV} {v:Value} (r:RV c h ρ (.tup l) v):∃ a vs,v=.ref a∧h.IsTuple a (List.toArray vs)∧a∉ρ∧AQ c h ρ l vs:=r
end
structure Kept (ρ:List Addr) (h:Heap) (ρ':List Addr) (h':Heap):Prop where
 pre:∀ (i:Nat) (a:Addr),ρ[i]?=some a→ρ'[i]?=some a
 tup:∀ a items,h.IsTuple a items→a∉ρ→h'.IsTuple a items∧a∉ρ'
 rng:∀ a lo hi t u x,IsRange h a lo hi 1 t u x→a∉ρ→IsRange h' a lo hi 1 t u x∧a∉ρ'
mutual
theorem RV.keep {c:Cx} {h h':Heap} {ρ ρ':List Addr} (k:Kept ρ h ρ' h'):∀ (x:PV) (v:Value),RV c h ρ x v→RV c h' ρ' x v
 | .none,_,p=>p
 | .bool _,_,p=>p
 | .int _,_,p=>p
 | .str _,_,p=>p
 | .tup ks,v,p=>by
  refine oEEAAA p fun a vs z0 t n q=>?_;subst z0
  exact LD (k.tup _ _ t n).1 (k.tup _ _ t n).2 (AQ.keep k ks vs q)
 | .rng _ _,v,p=>by
  refine oEEEEAA p fun a t u x z0 r n=>?_;subst z0
  exact OO (k.rng _ _ _ _ _ _ r n).1 (k.rng _ _ _ _ _ _ r n).2
 | .obj i,v,p=>by
  refine oEA p fun a z0 q=>?_;subst z0
  exact G6 (k.pre _ _ q)
 | .fn _,_,p=>p
 | .cls _,_,p=>p
 | .bi _,_,p=>p
 | .fd _,_,p=>p
 | .fl _,_,p=>p
theorem AQ.keep {c:Cx} {h h':Heap} {ρ ρ':List Addr} (k:Kept ρ h ρ' h'):∀ (x:List PV) (v:List Value),AQ c h ρ x v→AQ c h' ρ' x v
 | [],_,p=>p
 | x::xs,vs,p=>by
  refine oEEAA (p.uncons) fun v r z0 a b=>?_;subst z0
  exact AQ.cons (RV.keep k x v a) (AQ.keep k xs r b)
end
theorem AQ.ind {c:Cx} {h:Heap} {ρ:List Addr} {M:List PV→List Value→Prop} (h0:M [] []) (h1:∀ k ks v vs,RV c h ρ k v→AQ c h ρ ks vs→M ks vs→M (k::ks) (v::vs)):∀ x v,AQ c h ρ x v→M x v:=by
 intro x
 induction x with
 | nil=>intro v p;rw [p.unnil];exact h0
 | cons k ks ih =>
  intro v p
  refine oEEAA (p.uncons) fun v r z0 a b=>?_;subst z0
  exact h1 _ _ _ _ a b (ih _ b)
theorem AQ.length {c:Cx} {h:Heap} {ρ:List Addr} {x:List PV} {v:List Value} (p:AQ c h ρ x v):v.length=x.length :=
 AQ.ind (M:=fun x v=>v.length=x.length) rfl (fun _ _ _ _ _ _ e=>congrArg (·+1) e) x v p
theorem AQ.append {c:Cx} {h:Heap} {ρ:List Addr} {x y:List PV} {v u:List Value} (p:AQ c h ρ x v) (q:AQ c h ρ y u):AQ c h ρ (x++y) (v++u) :=
 AQ.ind (M:=fun x v=>AQ c h ρ (x++y) (v++u)) q (fun _ _ _ _ a _ e=>AQ.cons a e) x v p
theorem AQ.get {c:Cx} {h:Heap} {ρ:List Addr} {x:List PV} {v:List Value} (p:AQ c h ρ x v):∀ {i:Nat} {y:PV},x[i]?=some y→∃ u,v[i]?=some u∧RV c h ρ y u :=
 fun {i y}=>AQ.ind (M:=fun x v=>∀ i y,x[i]?=some y→∃ u,v[i]?=some u∧RV c h ρ y u) (fun _ _ e=>by simp at e) (fun k ks v vs a _ ih i y e=>by
  cases i with
  | zero=>exact ⟨v,rfl,Option.some.inj e▸a⟩
  | succ i=>exact ih i y e) x v p i y
theorem AQ.take {c:Cx} {h:Heap} {ρ:List Addr} {x:List PV} {v:List Value} (n:Nat) (p:AQ c h ρ x v):AQ c h ρ (x.take n) (v.take n) :=
 AQ.ind (M:=fun x v=>∀ n:Nat,AQ c h ρ (x.take n) (v.take n)) (fun n=>by cases n<;>exact AQ.nil) (fun k ks v vs a _ ih n=>by
  cases n with
  | zero=>exact AQ.nil
  | succ n=>exact AQ.cons a (ih n)) x v p n
theorem AQ.drop {c:Cx} {h:Heap} {ρ:List Addr} {x:List PV} {v:List Value} (n:Nat) (p:AQ c h ρ x v):AQ c h ρ (x.drop n) (v.drop n) :=
 AQ.ind (M:=fun x v=>∀ n:Nat,AQ c h ρ (x.drop n) (v.drop n)) (fun n=>by cases n<;>exact AQ.nil) (fun k ks v vs a b ih n=>by
  cases n with
  | zero=>exact AQ.cons a b
  | succ n=>exact ih n) x v p n
theorem AQ.reverse {c:Cx} {h:Heap} {ρ:List Addr} {x:List PV} {v:List Value} (p:AQ c h ρ x v):AQ c h ρ x.reverse v.reverse :=
 AQ.ind (M:=fun x v=>AQ c h ρ x.reverse v.reverse) AQ.nil (fun _ _ _ _ a _ e=>by
  rw [List.reverse_cons,List.reverse_cons];exact e.append (AQ.cons a AQ.nil)) x v p
theorem AQ.set {c:Cx} {h:Heap} {ρ:List Addr} {y:PV} {u:Value} (hy:RV c h ρ y u) {x:List PV} {v:List Value} (n:Nat) (p:AQ c h ρ x v):AQ c h ρ (x.set n y) (v.set n u) :=
 AQ.ind (M:=fun x v=>∀ n:Nat,AQ c h ρ (x.set n y) (v.set n u)) (fun _=>AQ.nil) (fun k ks v vs a b ih n=>by
  cases n with
  | zero=>exact AQ.cons hy b
  | succ n=>exact AQ.cons a (ih n)) x v p n
theorem AC {a b:Bool} (h:(a&&b)=true):a=true∧b=true:=Bool.and_eq_true_iff.mp h
theorem RV.plain {c:Cx} {h:Heap} {ρ:List Addr}:∀ (n:Nat) (x:PV) (v:Value),Ad n x=true→RV c h ρ x v→PR h n v x:=by
 intro n
 induction n with
 | zero =>
  intro x v hp r
  cases x with
  | int i=>obtain ⟨t,rfl⟩:=r;exact .int
  | str s=>obtain ⟨t,rfl⟩:=r;exact .str hp
  | _=>exact absurd hp Bool.false_ne_true
 | succ n ih =>
  intro x v hp r
  cases x with
  | int i=>obtain ⟨t,rfl⟩:=r;exact .int
  | str s=>obtain ⟨t,rfl⟩:=r;exact .str hp
  | tup ks =>
   refine oEEAAA r fun a vs z0 t _ q=>?_;subst z0
   have hp:ks.all (Ad n)=true:=hp
   exact Fe.tup t (AQ.ind (M:=fun ks vs=>ks.all (Ad n)=true→Paired (PR h n) vs ks) (fun _=>.nil) (fun _ _ _ _ a _ e hp=>.cons (ih _ _ (AC hp).1 a) (e (AC hp).2)) _ _ q hp)
  | _=>exact absurd hp Bool.false_ne_true
theorem AQ.plain {c:Cx} {h:Heap} {ρ:List Addr} {n:Nat} {x:List PV} {v:List Value} (hp:x.all (Ad n)=true) (p:AQ c h ρ x v):Paired (PR h n) v x :=
 AQ.ind (M:=fun ks vs=>ks.all (Ad n)=true→Paired (PR h n) vs ks) (fun _=>.nil) (fun _ _ _ _ a _ e hp=>.cons (RV.plain _ _ _ (AC hp).1 a) (e (AC hp).2)) _ _ p hp
noncomputable def DG (c:Cx) (h:Heap) (ρ:List Addr):List (Nat×PV)→List DictEntry→Prop
 | [],es=>es=[]
 | p::l,es=>∃ e r n t,es=e::r∧c.an[p.1]?=some n∧e.key=.str n t∧RV c h ρ p.2 e.val∧DG c h ρ l r
noncomputable def Uy (c:Cx) (h:Heap) (ρ:List Addr) (a:Addr) (l:List (PV×PV)):Prop :=
 ∃ kvs:List (Int×Value),h.DictOf (intKind c.prog c.w) a kvs∧l.map (·.1)=kvs.map (fun p=>PV.int p.1)∧AQ c h ρ (l.map (·.2)) (kvs.map (·.2))
noncomputable def Ut (c:Cx) (h:Heap) (ρ:List Addr) (a:Addr) (l:List (PV×PV)):Prop :=
 ∃ xs:List (PV×Addr×Value),h.DictOfH (Ii c.prog c.w) a xs∧l.map (·.1)=xs.map (·.1)∧AQ c h ρ (l.map (·.2)) (xs.map (·.2.2))∧AQ c h ρ (xs.map (·.1)) (xs.map fun x=>Value.ref x.2.1)
noncomputable def OR (c:Cx) (h:Heap) (ρ:List Addr) (a:Addr):PO→Prop
 | .list l=>∃ vs,h.PlainList a (List.toArray vs)∧AQ c h ρ l vs
 | .dict l=>Uy c h ρ a l∨Ut c h ρ a l
 | .inst k d=>∃ C dx,c.clsV k=some C∧h.get? a=some (instObj C dx)∧ρ[d]?=some dx
 | .attrs l=>∃ es n,h.get? a=some (dictOf es n)∧DG c h ρ l es
structure Inv (c:Cx) (ρ:List Addr) (st:St) (h:Heap):Prop where
 len:ρ.length=st.length
 nd:ρ.Nodup
 base:∀ b o,c.B.get? b=some o→h.get? b=some o
 off:∀ b∈ρ,c.B.objs.size≤b
 lt:∀ b∈ρ,b<h.objs.size
 bs:c.B.objs.size≤h.objs.size
 sm:sysModules<c.B.objs.size
 objs:∀ (i:Nat) (a:Addr) (o:PO),ρ[i]?=some a→st[i]?=some o→OR c h ρ a o
structure Step (fp:List Addr) (ρ:List Addr) (s:Shared) (ρ':List Addr) (s':Shared):Prop where
 pre:ρ <+: ρ'
 new:∀ b∈ρ',b∈ρ∨s.heap.objs.size≤b
 keep:∀ b o,s.heap.get? b=some o→b∉ρ→b∉fp→s'.heap.get? b=some o
 size:s.heap.objs.size≤s'.heap.objs.size
 gens:s'.gens=s.gens
 drawn:s'.drawn=s.drawn
 os:s'.os=s.os
theorem Step.refl {fp ρ:List Addr} {s:Shared}:Step fp ρ s ρ s :=
 ⟨List.prefix_refl _,fun _ h=>.inl h,fun _ _ h _ _=>h,Nat.le_refl _,rfl,rfl,rfl⟩
theorem Step.toks {fp ρ:List Addr} {s:Shared} {t:Nat}:Step fp ρ s ρ { s with toks:=t } :=
 ⟨List.prefix_refl _,fun _ h=>.inl h,fun _ _ h _ _=>h,Nat.le_refl _,rfl,rfl,rfl⟩
theorem Step.trans {fp ρ ρ₁ ρ₂:List Addr} {s s₁ s₂:Shared} (x:Step fp ρ s ρ₁ s₁) (y:Step fp ρ₁ s₁ ρ₂ s₂):Step fp ρ s ρ₂ s₂ where
 pre:=x.pre.trans y.pre
 new:=fun b hb=>(y.new b hb).elim (fun h=>x.new b h) fun h=>.inr (Nat.le_trans x.size h)
 keep:=fun b o h n f=>y.keep b o (x.keep b o h n f) (fun q=>(x.new b q).elim n fun g=>Nat.lt_irrefl _ (Nat.lt_of_lt_of_le (Heap.lt_size h) g)) f
 size:=Nat.le_trans x.size y.size
 gens:=y.gens.trans x.gens
 drawn:=y.drawn.trans x.drawn
 os:=y.os.trans x.os
theorem Step.weak {fp ρ ρ₁:List Addr} {s s₁:Shared} (x:Step [] ρ s ρ₁ s₁):Step fp ρ s ρ₁ s₁ :=
 ⟨x.pre,x.new,fun b o h n _=>x.keep b o h n (fun q=>nL q),x.size,x.gens,x.drawn,x.os⟩
theorem Step.drop {fp ρ ρ₁:List Addr} {s s₁:Shared} (x:Step fp ρ s ρ₁ s₁) (hf:∀ b∈fp,s.heap.objs.size≤b):Step [] ρ s ρ₁ s₁ :=
 ⟨x.pre,x.new,fun b o h n _=>x.keep b o h n (fun q=>Nat.lt_irrefl _ (Nat.lt_of_lt_of_le (Heap.lt_size h) (hf b q))),x.size,x.gens,x.drawn,x.os⟩
theorem Step.get {fp ρ ρ':List Addr} {s s':Shared} (x:Step fp ρ s ρ' s') {i:Nat} {a:Addr} (h:ρ[i]?=some a):ρ'[i]?=some a:=by
 refine oE (x.pre) fun t z0=>?_;subst z0
 rw [List.getElem?_append_left (gI h).1];exact h
theorem Step.notin {fp ρ ρ':List Addr} {s s':Shared} (x:Step fp ρ s ρ' s') {b:Addr} {o:Obj} (h:s.heap.get? b=some o) (n:b∉ρ):b∉ρ' :=
 fun q=>(x.new b q).elim n fun g=>Nat.lt_irrefl _ (Nat.lt_of_lt_of_le (Heap.lt_size h) g)
noncomputable def Off (h:Heap) (fp:List Addr):Prop:=∀ b∈fp,∀ o,h.get? b=some o→(∀ items n,o.data=.seq items n→o.cls≠.type "tuple")∧∀ vs,o.data=.fields vs→o.cls≠.type "range"
theorem Step.kept {fp ρ ρ':List Addr} {s s':Shared} (x:Step fp ρ s ρ' s') (hf:Off s.heap fp):Kept ρ s.heap ρ' s'.heap where
 pre:=fun _ _ h=>x.get h
 tup:=fun a items t n=>by
  refine oEAAE t fun o ho hc k hd=>?_
  exact ⟨⟨o,x.keep _ _ ho n fun q=>(hf _ q _ ho).1 _ _ hd hc,hc,k,hd⟩,x.notin ho n⟩
 rng:=fun a lo hi t u y r n=>⟨x.keep _ _ r n fun q=>(hf _ q _ r).2 _ rfl rfl,x.notin r n⟩
theorem Off.nil {h:Heap}:Off h []:=fun _ q=>nL q
theorem Step.kept0 {ρ ρ':List Addr} {s s':Shared} (x:Step [] ρ s ρ' s'):Kept ρ s.heap ρ' s'.heap:=x.kept Off.nil
theorem Kept.refl {ρ:List Addr} {h:Heap}:Kept ρ h ρ h:=⟨fun _ _ h=>h,fun _ _ t n=>⟨t,n⟩,fun _ _ _ _ _ _ r n=>⟨r,n⟩⟩
theorem DG.keep {c:Cx} {h h':Heap} {ρ ρ':List Addr} (k:Kept ρ h ρ' h'):∀ (l:List (Nat×PV)) (es:List DictEntry),DG c h ρ l es→DG c h' ρ' l es:=by
 intro l
 induction l with
 | nil=>exact fun _ p=>p
 | cons q l ih =>
  intro es p
  refine oEEEEAAAA p fun e r n t h1 h2 h3 h4 h5=>?_
  exact ⟨e,r,n,t,h1,h2,h3,RV.keep k _ _ h4,ih r h5⟩
theorem AQ.memKey {c:Cx} {h:Heap} {ρ:List Addr} {xs:List (PV×Addr×Value)} (p:AQ c h ρ (xs.map (·.1)) (xs.map fun x=>Value.ref x.2.1)):∀ x∈xs,RV c h ρ x.1 (.ref x.2.1):=by
 induction xs with
 | nil=>exact fun _ h=>nL h
 | cons y ys ih =>
  refine oEEAA (AQ.uncons p) fun v r e a b=>?_
  refine oA (List.cons.inj e) fun z0 z1=>?_;subst z0;subst z1
  intro x hx
  cases hx with
  | head=>exact a
  | tail _ hx=>exact ih b x hx
theorem OR.keep {c:Cx} {h h':Heap} {ρ ρ':List Addr} {a:Addr} {po:PO} (k:Kept ρ h ρ' h') (ha:∀ o,h.get? a=some o→h'.get? a=some o) (x:OR c h ρ a po):OR c h' ρ' a po:=by
 cases po with
 | list l=>refine oEA x fun vs z0 q=>?_;obtain ⟨n,ho⟩:=z0;exact ⟨vs,⟨n,ha _ ho⟩,AQ.keep k _ _ q⟩
 | dict l =>
  rcases x with ⟨kvs,⟨o,es,ep,ho,r⟩,e,q⟩ | ⟨xs,⟨o,es,ep,ho,r1,r2,r3,r4,r5⟩,e,q,n⟩
  ·exact .inl ⟨kvs,⟨o,es,ep,ha _ ho,r⟩,e,AQ.keep k _ _ q⟩
  ·refine .inr ⟨xs,⟨o,es,ep,ha _ ho,r1,r2,r3,fun x hx=>?_,r5⟩,e,AQ.keep k _ _ q,AQ.keep k _ _ n⟩
   refine oA (r4 x hx) fun z0 p=>?_;obtain ⟨l,hl⟩:=z0
   exact ⟨⟨l,hl⟩,RV.plain _ _ _ (PR.plain _ _ _ p) (AQ.memKey (AQ.keep k _ _ n) x hx)⟩
 | inst c d=>refine oEEAA x fun C dx h1 h2 h3=>?_;exact ⟨C,dx,h1,ha _ h2,k.pre _ _ h3⟩
 | attrs l=>refine oEEA x fun es n h1 h2=>?_;exact ⟨es,n,ha _ h1,DG.keep k _ _ h2⟩
end Mine
end
section
namespace Mine
open PySem PySem.W PyProof.Rows PySem.Spec
open scoped Classical
noncomputable abbrev CG:Value→Shared→Prop:=fun _ _=>False
noncomputable def Res (c:Cx) (ρ:List Addr) (s:Shared) (Q:PV→St→Prop) (v:Value) (s':Shared):Prop :=
 ∃ ρ' st' pv,Q pv st'∧Step [] ρ s ρ' s'∧Inv c ρ' st' s'.heap∧RV c s'.heap ρ' pv v
structure Ok (A:Around) (n:Nat):Prop where
 hd:A.handled=none
 depth:A.depth+3*n+3<recursionLimit
 units:A.units+10*n+200<cLine
theorem Res.mono {c:Cx} {ρ ρ₁:List Addr} {s s₁ s':Shared} {Q:PV→St→Prop} {v:Value} (x:Step [] ρ s ρ₁ s₁) (r:Res c ρ₁ s₁ Q v s'):Res c ρ s Q v s':=by
 refine oEEEAAA r fun ρ' st' pv q st i rv=>?_
 exact ⟨ρ',st',pv,q,x.trans st,i,rv⟩
section
variable {c:Cx} {ρ:List Addr} {st:St} {h h':Heap}
theorem Inv.kept {ρ':List Addr} (I:Inv c ρ st h) (k:Kept ρ h ρ h') (hρ:∀ b∈ρ,∀ o,h.get? b=some o→h'.get? b=some o) (hb:∀ b o,c.B.get? b=some o→h'.get? b=some o)
  (hs:h.objs.size≤h'.objs.size):Inv c ρ st h' where
 len:=I.len
 nd:=I.nd
 base:=hb
 off:=I.off
 lt:=fun b m=>Nat.lt_of_lt_of_le (I.lt b m) hs
 bs:=Nat.le_trans I.bs hs
 sm:=I.sm
 objs:=fun i a o e1 e2=>(I.objs i a o e1 e2).keep k (hρ a (List.mem_of_getElem? e1))
theorem Kept.all (hk:∀ b o,h.get? b=some o→h'.get? b=some o):Kept ρ h ρ h' where
 pre:=fun _ _ e=>e
 tup:=fun a items ⟨o,ho,r⟩ n=>⟨⟨o,hk _ _ ho,r⟩,n⟩
 rng:=fun _ _ _ _ _ _ r n=>⟨hk _ _ r,n⟩
theorem Inv.all (I:Inv c ρ st h) (hk:∀ b o,h.get? b=some o→h'.get? b=some o) (hs:h.objs.size≤h'.objs.size):Inv c ρ st h' :=
 I.kept (ρ':=ρ) (Kept.all hk) (fun b _ o e=>hk b o e) (fun b o e=>hk b o (I.base b o e)) hs
theorem Inv.push (I:Inv c ρ st h) (o:Obj):Inv c ρ st (h.push o):=I.all (fun _ _ e=>Heap.get?_push_of_some _ e) (by rw [Heap.size_push];omega)
theorem Inv.add {a:Addr} {po:PO} (I:Inv c ρ st h) (hn:a∉ρ) (hb:c.B.objs.size≤a) (hl:a<h.objs.size) (ht:∀ o,h.get? a=some o→(∀ items n,o.data=.seq items n→o.cls≠.type "tuple")∧∀ vs,o.data≠.fields vs)
  (ho:OR c h (ρ++[a]) a po):Inv c (ρ++[a]) (st++[po]) h∧Kept ρ h (ρ++[a]) h:=by
 have k:Kept ρ h (ρ++[a]) h:=by
  refine ⟨fun i b e=>?_,fun b items t n=>⟨t,?_⟩,fun b lo hi t u x r n=>⟨r,?_⟩⟩
  ·rw [List.getElem?_append_left (gI e).1];exact e
  ·intro q
   rcases mA q with q | q
   ·exact n q
   ·obtain rfl:=List.mem_singleton.mp q
    refine oEAAE t fun o ho hc n hd=>?_
    exact (ht o ho).1 _ _ hd hc
  ·intro q
   rcases mA q with q | q
   ·exact n q
   ·obtain rfl:=List.mem_singleton.mp q
    exact (ht _ r).2 _ rfl
 refine ⟨⟨by simp [I.len],?_,I.base,fun b q=>?_,fun b q=>?_,I.bs,I.sm,fun i b o e1 e2=>?_⟩,k⟩
 ·rw [List.nodup_append]
  refine ⟨I.nd,by simp,fun x hx y hy=>?_⟩
  rw [List.mem_singleton] at hy
  subst hy
  exact fun e=>hn (e▸hx)
 ·rcases mA q with q | q
  ·exact I.off b q
  ·rw [List.mem_singleton.mp q];exact hb
 ·rcases mA q with q | q
  ·exact I.lt b q
  ·rw [List.mem_singleton.mp q];exact hl
 ·by_cases hi:i<ρ.length
  ·rw [List.getElem?_append_left hi] at e1
   rw [List.getElem?_append_left (I.len▸hi)] at e2
   exact (I.objs i b o e1 e2).keep k fun _ e=>e
  ·rw [List.getElem?_append_right (by omega)] at e1
   rw [List.getElem?_append_right (by have:=I.len;omega)] at e2
   rw [I.len] at e1
   cases hj:i-st.length with
   | zero =>
    rw [hj] at e1 e2
    simp at e1 e2
    subst e1;subst e2
    exact ho
   | succ j=>rw [hj] at e1;simp at e1
theorem Inv.upd {i:Nat} {a:Addr} {po:PO} (I:Inv c ρ st h) (hi:ρ[i]?=some a) (hs:Heap.SameBut a h h') (hk:Kept ρ h ρ h') (hz:h.objs.size≤h'.objs.size) (ho:OR c h' ρ a po):Inv c ρ (st.set i po) h' where
 len:=by simp [I.len]
 nd:=I.nd
 base:=fun b o e=>(hs.2 b (fun q=>by
  have h1:=I.off a (List.mem_of_getElem? hi)
  have h2:=Heap.lt_size e
  subst q
  exact Nat.lt_irrefl _ (Nat.lt_of_lt_of_le h2 h1))).trans (I.base b o e)
 off:=I.off
 lt:=fun b m=>Nat.lt_of_lt_of_le (I.lt b m) hz
 bs:=Nat.le_trans I.bs hz
 sm:=I.sm
 objs:=fun j b o e1 e2=>by
  by_cases hj:i=j
  ·subst hj
   rw [hi] at e1;obtain rfl:=sI e1
   have hl:i<st.length:=by have:=(gI hi).1;have:=I.len;omega
   rw [List.getElem?_set_self hl] at e2
   obtain rfl:=sI e2
   exact ho
  ·rw [List.getElem?_set_ne hj] at e2
   have hba:b≠a:=fun q=>hj (by
    subst q
    have h1:=(gI hi)
    have h2:=(gI e1)
    obtain ⟨l1,g1⟩:=h1
    obtain ⟨l2,g2⟩:=h2
    exact (List.getElem?_inj l1 I.nd).mp (hi.trans e1.symm))
   exact (I.objs j b o e1 e2).keep hk fun o' e=>(hs.2 b hba).trans e
theorem Kept.upd {a:Addr} (ha:a∈ρ) (hs:Heap.SameBut a h h'):Kept ρ h ρ h' where
 pre:=fun _ _ e=>e
 tup:=fun b items ⟨o,ho,r⟩ n=>⟨⟨o,(hs.2 b (fun q=>n (q▸ha))).trans ho,r⟩,n⟩
 rng:=fun b _ _ _ _ _ r n=>⟨(hs.2 b (fun q=>n (q▸ha))).trans r,n⟩
theorem Step.upd {fp:List Addr} {s:Shared} {a:Addr} {t:Nat} (ha:a∈ρ) (hs:Heap.SameBut a s.heap h'):Step fp ρ s ρ { s with heap:=h',toks:=t } :=
 ⟨List.prefix_refl _,fun _ q=>.inl q,fun b o e n _=>(hs.2 b (fun q=>n (q▸ha))).trans e,by have:=hs.1;show s.heap.objs.size≤h'.objs.size;omega,rfl,rfl,rfl⟩
theorem Step.grow {fp:List Addr} {s:Shared} {t:Nat} (hk:∀ b o,s.heap.get? b=some o→h'.get? b=some o) (hz:s.heap.objs.size≤h'.objs.size):Step fp ρ s ρ { s with heap:=h',toks:=t } :=
 ⟨List.prefix_refl _,fun _ q=>.inl q,fun b o e _ _=>hk b o e,hz,rfl,rfl,rfl⟩
theorem Step.grow1 {fp:List Addr} {s:Shared} {t:Nat} {a:Addr} (ha:s.heap.objs.size≤a) (hk:∀ b o,s.heap.get? b=some o→h'.get? b=some o) (hz:s.heap.objs.size≤h'.objs.size) :
  Step fp ρ s (ρ++[a]) { s with heap:=h',toks:=t } :=
 ⟨List.prefix_append _ _,fun b q=>by
  rcases mA q with q | q
  ·exact .inl q
  ·rw [List.mem_singleton.mp q];exact .inr ha,fun b o e _ _=>hk b o e,hz,rfl,rfl,rfl⟩
end
section
variable {c:Cx} {ρ:List Addr} {st:St} {s:Shared} {Q:PV→St→Prop}
theorem IE {I:Inv c ρ st s.heap}:s.heap.objs.size∉ρ:=fun q=>Nat.lt_irrefl _ (I.lt _ q)
theorem E8 {i:Int} {t:Tok} {k:Nat} (I:Inv c ρ st s.heap) (q:Q (.int i) st):Res c ρ s Q (.int i t) { s with toks:=k } :=
 ⟨ρ,st,.int i,q,Step.toks,I,Cl⟩
theorem Mk {b:Bool} (I:Inv c ρ st s.heap) (q:Q (.bool b) st):Res c ρ s Q (.bool b) s:=⟨ρ,st,.bool b,q,Step.refl,I,H7⟩
theorem Q9 {b:Bool} {k:Nat} (I:Inv c ρ st s.heap) (q:Q (.bool b) st):Res c ρ s Q (.bool b) { s with toks:=k }:=⟨ρ,st,.bool b,q,Step.toks,I,H7⟩
theorem res_none (I:Inv c ρ st s.heap) (q:Q .none st):Res c ρ s Q .none s:=⟨ρ,st,.none,q,Step.refl,I,GH⟩
theorem Id {x:PV} {v:Value} (I:Inv c ρ st s.heap) (r:RV c s.heap ρ x v) (q:Q x st):Res c ρ s Q v s:=⟨ρ,st,x,q,Step.refl,I,r⟩
theorem Cd {x:PV} {v:Value} {k:Nat} (I:Inv c ρ st s.heap) (r:RV c s.heap ρ x v) (q:Q x st):Res c ρ s Q v { s with toks:=k }:=⟨ρ,st,x,q,Step.toks,I,r⟩
theorem LE {x:Str} {t:Tok} {k:Nat} (I:Inv c ρ st s.heap) (q:Q (.str x) st):Res c ρ s Q (.str x t) { s with toks:=k } :=
 ⟨ρ,st,.str x,q,Step.toks,I,S9⟩
theorem KH {ks:List PV} {vs:List Value} (I:Inv c ρ st s.heap) (r:AQ c s.heap ρ ks vs) (q:Q (.tup ks) st) :
  Res c ρ s Q (.ref s.heap.objs.size) { s with heap:=s.heap.push { cls:=.type "tuple",data:=.seq vs.toArray } }:=by
 refine ⟨ρ,st,.tup ks,q,Step.grow (fun _ _ e=>Heap.get?_push_of_some _ e) (by rw [Heap.size_push];omega),I.push _,?_⟩
 exact LD ⟨_,Heap.get?_push_size _ rfl,rfl,_,rfl⟩ (IE (I:=I)) (AQ.keep (Kept.all fun _ _ e=>Heap.get?_push_of_some _ e) _ _ r)
theorem Pz {obj:Obj} {po:PO} {k:Nat} (I:Inv c ρ st s.heap) (hf:obj.isFreed=false) (hd:obj.cls≠.type "tuple"∧∀ vs,obj.data≠.fields vs)
  (hor:∀ ρ' h',Kept ρ s.heap ρ' h'→h'.get? s.heap.objs.size=some obj→OR c h' ρ' s.heap.objs.size po) (q:Q (.obj st.length) (st++[po])) :
  Res c ρ s Q (.ref s.heap.objs.size) { s with heap:=s.heap.push obj,toks:=k }:=by
 have I':=I.push obj
 have g:(s.heap.push obj).get? s.heap.objs.size=some obj:=Heap.get?_push_size _ hf
 have k1:Kept ρ s.heap ρ (s.heap.push obj):=Kept.all fun _ _ e=>Heap.get?_push_of_some _ e
 have tt:∀ o,(s.heap.push obj).get? s.heap.objs.size=some o→(∀ items n,o.data=.seq items n→o.cls≠.type "tuple")∧∀ vs,o.data≠.fields vs:=by
  intro o e;rw [g] at e;obtain rfl:=sI e;exact ⟨fun _ _ _=>hd.1,hd.2⟩
 have nn:∀ b,b∈ρ++[s.heap.objs.size]→b∈ρ∨b=s.heap.objs.size:=fun b q=>(mA q).imp id List.mem_singleton.mp
 have k2:Kept ρ s.heap (ρ++[s.heap.objs.size]) (s.heap.push obj):=by
  refine ⟨fun i b e=>by rw [List.getElem?_append_left (gI e).1];exact e,fun b items t n=>⟨(k1.tup _ _ t n).1,fun q=>?_⟩,fun b lo hi t u x r n=>⟨(k1.rng _ _ _ _ _ _ r n).1,fun q=>?_⟩⟩
  ·rcases nn b q with q | rfl
   ·exact n q
   ·refine oEA t fun o ho _=>?_
    exact Nat.lt_irrefl _ (Heap.lt_size ho)
  ·rcases nn b q with q | rfl
   ·exact n q
   ·exact Nat.lt_irrefl _ (Heap.lt_size r)
 refine oA (I'.add (a:=s.heap.objs.size) (po:=po) (IE (I:=I)) I.bs (by have e9:=Heap.size_push s.heap obj;show s.heap.objs.size<(s.heap.push obj).objs.size;omega) tt (hor _ _ k2 g)) fun I2 _=>?_
 refine ⟨ρ++[s.heap.objs.size],_,_,q,Step.grow1 (s:=s) (h':=s.heap.push obj) (Nat.le_refl _) (fun _ _ e=>Heap.get?_push_of_some _ e) (by rw [Heap.size_push];omega),I2,?_⟩
 exact G6 (by rw [←I.len];exact List.getElem?_concat_length)
theorem GI {ks:List PV} {vs:List Value} {k n:Nat} (I:Inv c ρ st s.heap) (r:AQ c s.heap ρ ks vs) (q:Q (.obj st.length) (st++[.list ks])) :
  Res c ρ s Q (.ref s.heap.objs.size) { s with heap:=s.heap.push { cls:=.type "list",data:=.seq vs.toArray n },toks:=k } :=
 Pz (po:=.list ks) I rfl ⟨fun e=>by simp at e,fun _ e=>nomatch e⟩ (fun _ _ kk g=>⟨vs,⟨_,g⟩,AQ.keep kk _ _ r⟩) q
end
end Mine
end
section
namespace Mine
open PySem PySem.W PyProof.Rows PySem.Spec
open scoped Classical
theorem bitAnd_nn {a b:Int} (ha:0≤a) (hb:0≤b):Builtin.bitAnd a b=((a.toNat&&&b.toNat:Nat):Int):=by
 unfold Builtin.bitAnd
 rw [decide_eq_true ha,decide_eq_true hb]
theorem Nm {a b:Int} (ha:0≤a) (hb:0≤b):Builtin.bitOr a b=((a.toNat|||b.toNat:Nat):Int):=by
 unfold Builtin.bitOr Builtin.bitAnd Builtin.bitNot
 refine oE (Int.eq_ofNat_of_zero_le ha) fun x z0=>?_;subst z0
 refine oE (Int.eq_ofNat_of_zero_le hb) fun y z0=>?_;subst z0
 rw [decide_eq_false (by omega),decide_eq_false (by omega)]
 simp only [Int.toNat_natCast]
 have e1:(-(-(x:Int)-1)-1).toNat=x:=by omega
 have e2:(-(-(y:Int)-1)-1).toNat=y:=by omega
 rw [e1,e2]
 omega
section
variable {c:Cx} {A:Around} {ρ:List Addr} {st:St} {s:Shared} {Q:PV→St→Prop}
theorem DD {p:Prop} [Decidable p] {α:Type} {a b:α} (h:(if p then some a else none)=some b):p∧a=b:=by
 by_cases q:p
 ·rw [if_pos q] at h;exact ⟨q,Option.some.inj h⟩
 ·rw [if_neg q] at h;exact nO h
theorem Xy {op:Operator} {a b z:Int} {t u:Tok} {E:Value→Shared→Prop} {P:Value→Shared→Prop} (h:intOp op a b=some z) (q:P (.int z s.toks) { s with toks:=s.toks+1 }) :
  wpAny (model c.prog c.w) A (binaryOp op (.int a t) (.int b u)) P E s:=by
 cases op with
 | Add=>cases Option.some.inj h;exact add_int q
 | Sub=>cases Option.some.inj h;exact PyProof.Rows.sub_int q
 | Mod=>refine oA (DD h) fun h0 z0=>?_;subst z0;exact mod_int' h0 q
 | BitOr=>refine oA (DD h) fun h0 z0=>?_;subst z0;exact or_int (by rw [Nm h0.1 h0.2];exact q)
 | BitAnd=>refine oA (DD h) fun h0 z0=>?_;subst z0;exact and_int (by rw [bitAnd_nn h0.1 h0.2];exact q)
 | FloorDiv=>refine oA (DD h) fun h0 z0=>?_;subst z0;exact floordiv_int h0.1 q (.inl (PyProof.noPylong_small (by have:=h0.2.2;omega)))
 | _=>exact nomatch (h:(none:Option Int)=some z)
theorem OW {op:Operator} {a b z:Int} {t u:Tok} {E:Value→Shared→Prop} {P:Value→Shared→Prop} (h:intOp op a b=some z) (q:P (.int z s.toks) { s with toks:=s.toks+1 }) :
  wpAny (model c.prog c.w) A (inplaceOp op (.int a t) (.int b u)) P E s:=by
 cases op with
 | Add=>cases Option.some.inj h;exact iadd_int q
 | Sub=>cases Option.some.inj h;exact PyProof.Rows.isub_int q
 | Mod=>refine oA (DD h) fun h0 z0=>?_;subst z0;exact imod_int h0 q
 | BitOr=>refine oA (DD h) fun h0 z0=>?_;subst z0;exact ior_int (by rw [Nm h0.1 h0.2];exact q)
 | BitAnd=>refine oA (DD h) fun h0 z0=>?_;subst z0;exact iand_int (by rw [bitAnd_nn h0.1 h0.2];exact q)
 | FloorDiv=>refine oA (DD h) fun h0 z0=>?_;subst z0;exact ifloordiv_int h0.1 q (.inl (PyProof.noPylong_small (by have:=h0.2.2;omega)))
 | _=>exact nomatch (h:(none:Option Int)=some z)
theorem Inv.obj {i:Nat} {v:Value} {po:PO} (I:Inv c ρ st s.heap) (r:RV c s.heap ρ (.obj i) v) (h:st[i]?=some po):∃ a,v=.ref a∧ρ[i]?=some a∧OR c s.heap ρ a po:=by
 refine oEA r fun a e g=>?_
 exact ⟨a,e,g,I.objs i a po g h⟩
theorem Inv.lst {i:Nat} {v:Value} {l:List PV} (I:Inv c ρ st s.heap) (r:RV c s.heap ρ (.obj i) v) (h:st[i]?=some (.list l)):∃ a,v=.ref a∧ρ[i]?=some a∧∃ vs,s.heap.IsList a (List.toArray vs)∧AQ c s.heap ρ l vs:=by
 refine oEAAEA (I.obj r h) fun a e g vs p q=>?_
 exact ⟨a,e,g,vs,p.isList,q⟩
theorem Inv.notSys {i:Nat} {a:Addr} (I:Inv c ρ st s.heap) (h:ρ[i]?=some a):(a==sysModules)=false:=by
 have h1:=I.off a (List.mem_of_getElem? h)
 have h2:(1:Nat)<c.B.objs.size:=I.sm
 rw [beq_eq_false_iff_ne]
 intro e
 rw [e] at h1
 exact Nat.lt_irrefl _ (Nat.lt_of_lt_of_le h2 h1)
theorem FJ {n:Nat} (h:n≤100000):n≤sizeLine:=Nat.le_trans h (by decide)
theorem Kx {vs:List Value} {l:List PV} (e:vs.length=l.length) (h:l.length≤100000):vs.toArray.size≤sizeLine:=by rw [List.size_toArray,e];exact FJ h
theorem Pj {vs:List Value} {l:List PV} (e:vs.length=l.length) (h:l.length≤100000):(vs.toArray.size:Int)<2 ^ 63:=by rw [List.size_toArray,e];omega
theorem Qy {op:Operator} {x y:PV} {u v:Value} (I:Inv c ρ st s.heap) (hu:RV c s.heap ρ x u) (hv:RV c s.heap ρ y v) (h:Pf st Q op x y) :
  wpAny (model c.prog c.w) A (binaryOp op u v) (Res c ρ s Q) CG s:=by
 cases h with
 | int h q =>
  obtain ⟨t,rfl⟩:=hu
  obtain ⟨t',rfl⟩:=hv
  exact Xy h (E8 I q)
 | str h q =>
  obtain ⟨t,rfl⟩:=hu
  obtain ⟨t',rfl⟩:=hv
  exact PyProof.Rows.add_str (fun t' tk=>LE I q) (FJ (Nat.le_trans h (by decide)))
 | list hi hj hl q =>
  refine oEAAEA (I.lst hu hi) fun a z0 ha vs z1 r1=>?_;subst z0;obtain ⟨⟨cls,dd,data,sl⟩,ho,hc,n,hd⟩:=z1
  refine oEAAEA (I.lst hv hj) fun b z0 hb ws z1 r2=>?_;subst z0;obtain ⟨⟨cls2,dd2,data2,sl2⟩,ho2,hc2,n2,hd2⟩:=z1
  cases hc;cases hd;cases hc2;cases hd2
  refine concat_meets ⟨_,ho,rfl⟩ ⟨_,ho2,rfl⟩ noFill_list_add seq_list_add PySem.F.slot_list_add PySem.F.entry_list_add (PySem.F.args_list_add_2 _ _)
   (list_addW a b vs.toArray ws.toArray _ _ dd dd2 sl sl2 (by rw [List.size_toArray,List.size_toArray,r1.length,r2.length];exact FJ hl)) ⟨ho,ho2,?_⟩
  rw [List.append_toArray]
  exact GI I (r1.append r2) q
theorem Na {α β:Type} {l:List α} {vs:List β} (h:vs.length=l.length):vs.toArray.isEmpty=l.isEmpty:=by
 cases l<;>cases vs<;>first | rfl | exact nomatch h
theorem Ea {x:PV} {v:Value} {b:Bool} {P:Bool→Shared→Prop} {E:Value→Shared→Prop} (I:Inv c ρ st s.heap) (hv:RV c s.heap ρ x v) (h:BP st x b) (q:∀ k,P b { s with toks:=k }) :
  wpAny (model c.prog c.w) A (truthy v) P E s:=by
 cases h with
 | none=>cases hv;exact truthy_none (q s.toks)
 | bool=>cases hv;exact wpAny_truthy_bool (q s.toks)
 | int i =>
  obtain ⟨t,rfl⟩:=hv
  have:(i != 0)=decide (i≠0):=by by_cases h:i=0<;>simp [h]
  exact truthy_int (by rw [this];exact q s.toks)
 | tup hl =>
  refine oEEAAA hv fun a vs z0 t n r=>?_;subst z0
  exact truthy_tuple t (Pj r.length hl) (by rw [Na r.length];exact q _)
 | list hi hl =>
  refine oEAAEA (I.lst hv hi) fun a z0 ha vs L1 r=>?_;subst z0
  exact wpAny_truthy_list L1 (Pj r.length hl) (by rw [Na r.length];exact q _)
end
end Mine
end
section
namespace Mine
open PySem PySem.W PyProof.Rows PySem.Spec
open scoped Classical
section
variable {c:Cx} {A:Around} {ρ:List Addr} {st:St} {s:Shared} {Q:PV→St→Prop}
theorem SQ {h:Heap} {a:Addr} (x:Ut c h ρ a []):Uy c h ρ a []:=by
 refine oEAAA x fun xs z0 e r _=>?_;obtain ⟨o,es,ep,ho,hx,hdd,he,_,_⟩:=z0
 obtain rfl:=List.map_eq_nil_iff.mp e.symm
 have:es=#[]:=by obtain ⟨l⟩:=es;exact congrArg Array.mk (by simpa using he)
 subst this
 exact ⟨[],⟨o,_,ep,ho,hx,hdd,fun e he=>absurd he (Array.not_mem_empty _),.nil,by simp⟩,rfl,AQ.nil⟩
theorem T3 {h:Heap} {a:Addr} (x:Uy c h ρ a []):Ut c h ρ a []:=by
 refine oEAA x fun xs z0 e r=>?_;obtain ⟨o,es,ep,ho,hx,hdd,_,he,_⟩:=z0
 obtain rfl:=List.map_eq_nil_iff.mp e.symm
 have:es=#[]:=by
  obtain ⟨l⟩:=es
  cases l with
  | nil=>rfl
  | cons _ _=>exact nomatch he
 subst this
 exact ⟨[],⟨o,_,ep,ho,hx,hdd,rfl,fun e he=>(nL he),List.nodup_nil⟩,rfl,AQ.nil,AQ.nil⟩
theorem Ds {h:Heap} {a:Addr} {l:List (PV×PV)} (x:OR c h ρ a (.dict l)) (hk:∀ p∈l,p.1.isInt=true):Uy c h ρ a l:=by
 rcases x with x | x
 ·exact x
 ·cases l with
  | nil=>exact SQ x
  | cons p l =>
   refine oEAA x fun xs z0 e _=>?_;obtain ⟨_,_,_,_,_,_,_,hi,_⟩:=z0
   cases xs with
   | nil=>exact nC e
   | cons y ys =>
    refine oA (hi y (.head _)) fun z0 _=>?_;obtain ⟨l',hl⟩:=z0
    have e1:p.1=y.1:=(List.cons.inj e).1
    have:=hk p (.head _)
    rw [e1,hl] at this
    exact nB this
theorem K3 {h:Heap} {a:Addr} {l:List (PV×PV)} (x:OR c h ρ a (.dict l)) (hk:∀ p∈l,p.1.isTup=true):Ut c h ρ a l:=by
 rcases x with x | x
 ·cases l with
  | nil=>exact T3 x
  | cons p l =>
   refine oEAA x fun xs _ e _=>?_
   cases xs with
   | nil=>exact nC e
   | cons y ys =>
    have e1:p.1=.int y.1:=(List.cons.inj e).1
    have:=hk p (.head _)
    rw [e1] at this
    exact nB this
 ·exact x
theorem Qg {n m:Nat} {a:PV} {d:PyData} (ha:Pl m a d):∀ {l:List PV} {ds:List PyData},Paired (Pl n) l ds→ds.any (fun y=>PyData.eqv y d)=decide (a∈l):=by
 intro l ds p
 induction p with
 | nil=>rfl
 | cons h _ ih =>
  rw [List.any_cons,ih,IH h ha,←Bool.decide_or]
  exact decide_eq_decide.mpr ((or_congr_left eq_comm).trans List.mem_cons.symm)
theorem CK {α β K:Type} [DecidableEq K] (f:α→K) (g:α→β) (k:K) (l:List α):((l.find? fun p=>decide (f p=k)).map g).isSome=decide (k∈l.map f):=by
 induction l with
 | nil=>rfl
 | cons x xs ih =>
  rw [List.find?_cons]
  by_cases e:f x=k
  ·rw [decide_eq_true e];exact (decide_eq_true (List.mem_cons.mpr (.inl e.symm))).symm
  ·rw [decide_eq_false e,ih]
   exact decide_eq_decide.mpr ⟨fun h=>.tail _ h,fun h=>(mC h).resolve_left fun q=>e q.symm⟩
theorem Oi {i:Int} {l:List Int}:PV.int i∈l.map PV.int↔i∈l :=
 List.mem_map.trans ⟨fun ⟨_,h,e⟩=>PV.int.inj e▸h,fun h=>⟨_,h,rfl⟩⟩
theorem T1 {i:Int} {l:List (PV×PV)} {kvs:List (Int×Value)} (e:l.map (·.1)=kvs.map (fun p=>PV.int p.1)):decide (i∈kvs.map (·.1))=decide (PV.int i∈l.map (·.1)):=by
 rw [e]
 refine decide_eq_decide.mpr (Oi.symm.trans ?_)
 rw [List.map_map];exact Iff.rfl
theorem Mt {M:Model} {u v:Value} {P:Value→Shared→Prop} {E:Value→Shared→Prop} (hP:wpAny M A (compareOp .In u v) (fun r s'=>∃ b,r=.bool b∧P (.bool !b) s') E s) :
  wpAny M A (compareOp .NotIn u v) P E s:=by
 have h1:wpAny M A (contains v u >>= fun b=>(pure (Value.bool b):Sem Value)) (fun r s'=>∃ b,r=.bool b∧P (.bool !b) s') E s:=hP
 show wpAny M A (contains v u >>= fun b=>(pure (Value.bool !b):Sem Value)) P E s
 intro Γ p hΓ
 have h2:=h1 Γ p hΓ
 rw [Sem.wp_bind'] at h2 ⊢
 refine Sem.wp_mono M Γ _ (fun b p' s' h=>?_) (fun _ _ _ h=>h) p s h2
 refine oEA ((h:∃ b',Value.bool b=Value.bool b'∧P (.bool !b') s')) fun b' e q=>?_
 cases e
 exact q
theorem Ok.u6 {n:Nat} (hA:Ok A n):A.in1.units+6<cLine:=by show A.units+1+6<cLine;have:=hA.units;omega
theorem Ok.u7 {n:Nat} (hA:Ok A n):A.units+7<cLine:=by have:=hA.units;omega
theorem Mc {x y:PV} {u v:Value} {b:Bool} {n:Nat} {P:Value→Shared→Prop} {E:Value→Shared→Prop} (hA:Ok A n) (I:Inv c ρ st s.heap) (hu:RV c s.heap ρ x u) (hv:RV c s.heap ρ y v)
  (h:WZ st x y b) (q:∀ k,P (.bool b) { s with toks:=k }):wpAny (model c.prog c.w) A (compareOp .In u v) P E s:=by
 have q0:=q s.toks
 cases h with
 | tup p1 p2 =>
  refine oEEAAA hv fun a vs z0 z1 _ r=>?_;subst z0;obtain ⟨o,ho,hc,k,hd⟩:=z1
  refine oEEAAA (PR.dataL (AQ.plain p2 r)) fun ds as a1 a2 a3 a4=>?_
  refine oEEAAA ((RV.plain _ _ _ p1 hu).data) fun d bs b1 b2 b3 b4=>?_
  refine SeqAt.in_tuple_reads (reads_tuple_at ho hc hd a2) b2 a3 b3 (Fj (b:=6) hA.u6 a4) ?_
  rw [Qg b1 a1];exact q0
 | list hj p1 p2 =>
  refine oEAAEA (I.lst hv hj) fun a z0 ha vs z1 r=>?_;subst z0;obtain ⟨o,ho,hc,k,hd⟩:=z1
  refine oEEAAA (PR.dataL (AQ.plain p2 r)) fun ds as a1 a2 a3 a4=>?_
  refine oEEAAA ((RV.plain _ _ _ p1 hu).data) fun d bs b1 b2 b3 b4=>?_
  refine SeqAt.in_list_reads (reads_list_at ho hc hd a2) b2 a3 b3 (Fj (b:=6) hA.u6 a4) ?_
  rw [Qg b1 a1];exact q0
 | dict hj hk =>
  refine oEAA (I.obj hv hj) fun a z0 ha ho=>?_;subst z0
  refine Or.elim hk (fun z2=>oA z2 fun k1 k2=>?_) fun z3=>RG z3 fun k1 k2 k3=>?_
  ·cases x with
   | int i =>
    refine oEAA (Ds ho k2) fun kvs hd e r=>?_
    obtain ⟨t,rfl⟩:=hu
    refine wpAny_in_of (knd:=intKind c.prog c.w) (k:=i) (by simp [intKind,Value.isInt]) (I.notSys ha) hd.mapOf ?_
    rw [valueAt,CK,T1 e]
    exact q _
   | _=>exact nB k1
  ·cases x with
   | tup ks =>
    refine oEAAA (K3 ho k3) fun xs hd e r _=>?_
    have p1:=RV.plain _ _ _ k2 hu
    refine oE (p1.tup_) fun b z0=>?_;subst z0
    refine wpAny_in_heap (knd:=Ii c.prog c.w) (k:=.tup ks) hA.u6 ⟨⟨_,rfl⟩,p1⟩ (I.notSys ha) hd ?_
    rw [atKey,CK,←e]
    exact q _
   | _=>exact nB k1
theorem QS (a b:List PV):decide (PV.tup a=PV.tup b)=decide (a=b):=decide_eq_decide.mpr ⟨PV.tup.inj,congrArg _⟩
theorem Md {x y:PV} {u v:Value} {b:Bool} {n:Nat} {P:Value→Shared→Prop} {E:Value→Shared→Prop} (hA:Ok A n) (I:Inv c ρ st s.heap) (hu:RV c s.heap ρ x u) (hv:RV c s.heap ρ y v)
  (h:XJ st x y b):(P (.bool b) s→wpAny (model c.prog c.w) A (compareOp .Eq u v) P E s)∧(P (.bool !b) s→wpAny (model c.prog c.w) A (compareOp .NotEq u v) P E s):=by
 cases h with
 | int=>obtain ⟨t,rfl⟩:=hu;obtain ⟨t',rfl⟩:=hv;exact ⟨fun q=>eq_int q,fun q=>ne_int q⟩
 | bool=>cases hu;cases hv;exact ⟨fun q=>eq_bool q,fun q=>ne_bool q⟩
 | tup p q =>
  have p1:=RV.plain 7 (.tup _) _ p hu
  have p2:=RV.plain 7 (.tup _) _ q hv
  exact ⟨fun q=>UT hA.u7 p1 p2 (by rw [QS];exact q),fun q=>US hA.u7 p1 p2 (by rw [QS];exact q)⟩
 | list h1 h2 p q =>
  refine oEAAEA (I.lst hu h1) fun x1 z0 _ vs z1 r=>?_;subst z0;obtain ⟨o,ho,hc,k,hd⟩:=z1
  refine oEAAEA (I.lst hv h2) fun x2 z0 _ ws z1 r2=>?_;subst z0;obtain ⟨o2,ho2,hc2,k2,hd2⟩:=z1
  refine oEEAAA (PR.dataL (AQ.plain p r)) fun ds as a1 a2 a3 a4=>?_
  refine oEEAAA (PR.dataL (AQ.plain q r2)) fun es bs b1 b2 b3 b4=>?_
  have e:=PH a1 b1
  exact ⟨fun q=>SeqAt.compareEq_reads (reads_list_at ho hc hd a2) (reads_list_at ho2 hc2 hd2 b2) a3 b3 (Fj hA.u7 (Nat.succ_le_succ a4)) (by rw [←e] at q;exact q),
   fun q=>SeqAt.compareNe_reads (reads_list_at ho hc hd a2) (reads_list_at ho2 hc2 hd2 b2) a3 b3 (Fj hA.u7 (Nat.succ_le_succ a4)) (by rw [←e] at q;exact q)⟩
theorem Qx {op:CmpOp} {x y:PV} {u v:Value} {b:Bool} {n:Nat} {P:Value→Shared→Prop} {E:Value→Shared→Prop} (hA:Ok A n) (I:Inv c ρ st s.heap) (hu:RV c s.heap ρ x u) (hv:RV c s.heap ρ y v)
  (h:C5 st op x y b) (q:∀ k,P (.bool b) { s with toks:=k }):wpAny (model c.prog c.w) A (compareOp op u v) P E s:=by
 have q0:=q s.toks
 cases h with
 | eq h=>exact (Md hA I hu hv h).1 q0
 | ne h=>exact (Md hA I hu hv h).2 q0
 | lt=>obtain ⟨t,rfl⟩:=hu;obtain ⟨t',rfl⟩:=hv;exact lt_int q0
 | le=>obtain ⟨t,rfl⟩:=hu;obtain ⟨t',rfl⟩:=hv;exact PyProof.Rows.le_int q0
 | gt=>obtain ⟨t,rfl⟩:=hu;obtain ⟨t',rfl⟩:=hv;exact gt_int q0
 | ge=>obtain ⟨t,rfl⟩:=hu;obtain ⟨t',rfl⟩:=hv;exact PyProof.Rows.ge_int q0
 | isin h=>exact Mc hA I hu hv h q
 | nin h=>exact Mt (Mc hA I hu hv h fun k=>⟨_,rfl,q k⟩)
 | isN=>cases hu;cases hv;exact is_none_none q0
 | isO=>refine oEA hu fun a z0 _=>?_;subst z0;cases hv;exact is_ref_none q0
 | isI=>obtain ⟨t,rfl⟩:=hu;cases hv;exact is_none_ne (by intro x;cases x) q0
 | noN=>cases hu;cases hv;exact isnot_none_none q0
 | noO=>refine oEA hu fun a z0 _=>?_;subst z0;cases hv;exact isnot_ref_none q0
 | noI=>obtain ⟨t,rfl⟩:=hu;cases hv;exact isnot_none_ne (by intro x;cases x) q0
end
end Mine
end
section
namespace Mine
open PySem PySem.W PyProof.Rows PySem.Spec
open scoped Classical
section
variable {c:Cx} {A:Around} {ρ:List Addr} {st:St} {s:Shared} {Q:PV→St→Prop}
theorem Hw (slice:Expr) (o i:Value):∃ ops,subscripted slice false o i=operate ops (getItem o i):=by
 cases slice with
 | Slice a b c p=>cases c<;>exact ⟨_,rfl⟩
 | _=>exact ⟨_,rfl⟩
theorem Df {value slice:Expr} {o i:Value} {T id:String} {P:Value→Shared→Prop} {E:Value→Shared→Prop} (hT:s.TypeIs o T)
  (hl:typeLookup (.type T) "__getitem__"=pure (some (.builtin id))) (hg:wpAny (model c.prog c.w) A (getItem o i) P E s):wpAny (model c.prog c.w) A (subscriptTail value slice o i) P E s:=by
 refine oE (Hw slice o i) fun ops hs=>?_
 exact PyProof.Rows.tail_any hT hl hg hs
theorem HD {β κ:Type} [DecidableEq κ] {h:Heap} {f:β→κ} {g:β→Value} {t:κ→PV} (ht:∀ a b,t a=t b→a=b) {k:κ}:∀ {l:List (PV×PV)} {xs:List β},l.map (·.1)=xs.map (fun p=>t (f p))→AQ c h ρ (l.map (·.2)) (xs.map g) →
  (∀ r,look l (t k)=some r→∃ p,xs.find? (fun p=>decide (f p=k))=some p∧RV c h ρ r (g p))∧(look l (t k)=none→xs.find? (fun p=>decide (f p=k))=none):=by
 intro l
 induction l with
 | nil=>intro xs e _;cases xs with
  | nil=>exact ⟨fun _ e=>(nO e),fun _=>rfl⟩
  | cons _ _=>exact nD e
 | cons p l ih =>
  intro xs e q
  cases xs with
  | nil=>exact nC e
  | cons y ys =>
   refine oEEAA (AQ.uncons q) fun v r' e' a b=>?_
   refine oA (List.cons.inj e') fun z0 z1=>?_;subst z0;subst z1
   have e1:p.1=t (f y):=(List.cons.inj e).1
   unfold look
   rw [List.find?_cons,List.find?_cons]
   by_cases hk:f y=k
   ·rw [decide_eq_true hk,decide_eq_true (e1.trans (congrArg t hk))]
    exact ⟨fun r er=>⟨_,rfl,Option.some.inj er▸a⟩,fun er=>(nS er)⟩
   ·rw [decide_eq_false hk,decide_eq_false fun q=>hk (ht _ _ (e1.symm.trans q))]
    exact ih (List.cons.inj e).2 b
theorem Ge {l:List (PV×PV)} {kvs:List (Int×Value)} {h:Heap} {i:Int} {r:PV} (e:l.map (·.1)=kvs.map (fun p=>PV.int p.1)) (q:AQ c h ρ (l.map (·.2)) (kvs.map (·.2)))
  (hl:look l (.int i)=some r):∃ v,valueAt kvs i=some v∧RV c h ρ r v:=by
 refine oEA ((HD (f:=fun p:Int×Value=>p.1) (t:=PV.int) (fun _ _=>PV.int.inj) e q).1 _ hl) fun p e r=>?_
 exact ⟨_,congrArg (Option.map _) e,r⟩
theorem Gf {h:Heap} {l:List (PV×PV)} {kvs:List (Int×Value)} {i:Int} (e:l.map (·.1)=kvs.map (fun p=>PV.int p.1)) (q:AQ c h ρ (l.map (·.2)) (kvs.map (·.2))) (hl:look l (.int i)=none):valueAt kvs i=none :=
 congrArg (Option.map _) ((HD (f:=fun p:Int×Value=>p.1) (t:=PV.int) (fun _ _=>PV.int.inj) e q).2 hl)
theorem Om {l:List (PV×PV)} {xs:List (PV×Addr×Value)} {h:Heap} {k r:PV} (e:l.map (·.1)=xs.map (·.1)) (q:AQ c h ρ (l.map (·.2)) (xs.map (·.2.2)))
  (hl:look l k=some r):∃ p,atKey xs k=some p∧RV c h ρ r p.2:=by
 refine oEA ((HD (f:=fun p:PV×Addr×Value=>p.1) (t:=id) (fun _ _=>id) e q).1 _ hl) fun p e r=>?_
 exact ⟨_,congrArg (Option.map _) e,r⟩
theorem Q4 {i:Int} {n:Nat} (h:0≤i) (l:i.toNat<n):seqIndex? i n=some i.toNat:=by
 unfold seqIndex?
 have h1:¬i<0:=by omega
 have h2:i<n:=by omega
 simp [h1,h,h2]
theorem Q5 {i:Int} {n:Nat} (h:i<0) (l:0≤i+n):seqIndex? i n=some (i+n).toNat:=by
 unfold seqIndex?
 have h2:i+n<n:=by omega
 simp [h,l,h2]
theorem Qu {x k r:PV} {u v:Value} {n:Nat} {value slice:Expr} {P:Value→Shared→Prop} {E:Value→Shared→Prop} (hA:Ok A n) (I:Inv c ρ st s.heap) (hu:RV c s.heap ρ x u) (hv:RV c s.heap ρ k v)
  (h:N0 st x k r) (q:∀ y t,RV c s.heap ρ r y→P y { s with toks:=t }):wpAny (model c.prog c.w) A (subscriptTail value slice u v) P E s:=by
 cases h with
 | tup h =>
  refine oEEAAA hu fun a vs z0 T _ rs=>?_;subst z0
  obtain ⟨t,rfl⟩:=hv
  have n1:=rs.length
  refine Df T.typeIs slot_tuple_getitem.lookup ?_
  cases h with
  | pos hl h0 e =>
   refine oEA (rs.get e) fun y e2 ry=>?_
   have hlt:=(gI e).1
   exact PyProof.Rows.getItem_tuple T (by omega) (by omega) (Q4 h0 (by rw [List.size_toArray,n1];exact hlt)) (List.getElem?_toArray.trans e2) (q y s.toks ry)
  | neg hl h0 h1 e =>
   refine oEA (rs.get e) fun y e2 ry=>?_
   exact PyProof.Rows.getItem_tuple T (by omega) (by omega) (Q5 h0 (by rw [List.size_toArray,n1];exact h1)) (by rw [List.size_toArray,n1];exact List.getElem?_toArray.trans e2) (q y s.toks ry)
 | list hj h =>
  refine oEAAEA (I.lst hu hj) fun a z0 ha vs L1 rs=>?_;subst z0
  obtain ⟨t,rfl⟩:=hv
  have n1:=rs.length
  refine Df L1.typeIs slot_list_getitem.lookup ?_
  cases h with
  | pos hl h0 e =>
   refine oEA (rs.get e) fun y e2 ry=>?_
   have hlt:=(gI e).1
   exact wpAny_getItem_list L1 h0 (by omega) (List.getElem?_toArray.trans e2) (q y s.toks ry)
  | neg hl h0 h1 e =>
   refine oEA (rs.get e) fun y e2 ry=>?_
   exact wpAny_getItem_list_neg L1 h0 (by rw [List.size_toArray,n1];omega) (by omega) (by rw [List.size_toArray,n1];exact List.getElem?_toArray.trans e2) (q y s.toks ry)
 | dict hj hk h =>
  refine oEAA (I.obj hu hj) fun a z0 ha ho=>?_;subst z0
  refine Or.elim hk (fun z2=>oA z2 fun k1 k2=>?_) fun z3=>RG z3 fun k1 k2 k3=>?_
  ·cases k with
   | int i =>
    refine oEAA (Ds ho k2) fun kvs hd e rs=>?_
    obtain ⟨t,rfl⟩:=hv
    refine oEA (Ge e rs h) fun y h1 h2=>?_
    exact Df hd.mapOf.typeIs slot_dict_getitem.lookup (wpAny_getItem_of (knd:=intKind c.prog c.w) (k:=i) (by simp [intKind,Value.isInt]) hd.mapOf h1 (q y _ h2))
   | _=>exact nB k1
  ·cases k with
   | tup ks =>
    refine oEAAA (K3 ho k3) fun xs hd e rs _=>?_
    have p1:=RV.plain _ _ _ k2 hv
    refine oE (p1.tup_) fun b z0=>?_;subst z0
    refine oEA (Om e rs h) fun y h1 h2=>?_
    exact Df hd.typeIs slot_dict_getitem.lookup (wpAny_getItem_heap (knd:=Ii c.prog c.w) (k:=.tup ks) hA.u6 ⟨⟨_,rfl⟩,p1⟩ hd h1 (q y.2 _ h2))
   | _=>exact nB k1
end
end Mine
end
section
namespace Mine
open PySem PySem.W PyProof.Rows PySem.Spec
open scoped Classical
noncomputable def Bq (l u st:Value):Obj:={ cls:=.type "slice",data:=.fields #[l,u,st] }
section
variable {c:Cx} {A:Around} {ρ:List Addr} {st:St} {s:Shared} {Q:PV→St→Prop}
theorem Inv.slice {l u x:Value} (I:Inv c ρ st s.heap):Inv c ρ st (s.heap.push (Bq l u x)):=I.push _
theorem Dj {o:Obj} {P:Value} (r:Res c ρ { s with heap:=s.heap.push o } Q P s'):Res c ρ s Q P s' :=
 Res.mono (Step.grow (t:=s.toks) (fun _ _ e=>Heap.get?_push_of_some _ e) (by rw [Heap.size_push];omega)) r
theorem Dh {i:Nat} {u:Value} {l l':List PV} {vl vu vs:Value} {lo hi sp:Option Int} {value slice:Expr} (I:Inv c ρ st s.heap) (hu:RV c s.heap ρ (.obj i) u) (hi':st[i]?=some (.list l)) (hl:l.length≤100000)
  (pl:IsPart vl lo) (pu:IsPart vu hi) (ps:IsPart vs sp) (h0:sp≠some 0) (hp:∀ vs:List Value,vs.length=l.length→∀ ρ h,AQ c h ρ l vs→∃ ws:List Value,slicePick vs.toArray lo hi sp=ws.toArray∧AQ c h ρ l' ws)
  (q:Q (.obj st.length) (st++[.list l'])) :
  wpAny (model c.prog c.w) A (subscriptTail value slice u (.ref s.heap.objs.size)) (Res c ρ s Q) CG { s with heap:=s.heap.push (Bq vl vu vs) }:=by
 have I2:=I.slice (l:=vl) (u:=vu) (x:=vs)
 have k1:Kept ρ s.heap ρ (s.heap.push (Bq vl vu vs)):=Kept.all fun _ _ e=>Heap.get?_push_of_some _ e
 refine oEAAEA (I2.lst (s:={ s with heap:=s.heap.push (Bq vl vu vs) }) (RV.keep k1 _ _ hu) hi') fun a z0 ha ws L1 rs=>?_;subst z0
 refine oEA (hp ws rs.length _ _ rs) fun xs e rx=>?_
 refine Df (s:={ s with heap:=s.heap.push (Bq vl vu vs) }) L1.typeIs slot_list_getitem.lookup (wpAny_getItem_list_slice L1 (Heap.IsSliceOf.new _ _ _ _) pl pu ps h0 ?_ (Kx rs.length hl))
 rw [e]
 exact Dj (GI (s:={ s with heap:=s.heap.push (Bq vl vu vs) }) I2 rx q)
theorem OG {i:Nat} {n:Int} {t:Tok} {u:Value} {l:List PV} {value slice:Expr} (I:Inv c ρ st s.heap) (hu:RV c s.heap ρ (.obj i) u) (hi:st[i]?=some (.list l)) (hn:0≤n) (hl:l.length≤100000)
  (q:Q (.obj st.length) (st++[.list (l.take n.toNat)])) :
  wpAny (model c.prog c.w) A (subscriptTail value slice u (.ref s.heap.objs.size)) (Res c ρ s Q) CG { s with heap:=s.heap.push (Bq .none (.int n t) .none) }:=by
 refine Dh I hu hi hl .none (.int _ _) .none nofun (fun vs hv ρ h r=>?_) q
 refine ⟨vs.take n.toNat,?_,r.take _⟩
 have:=slicePick_upto' vs.toArray n.toNat
 rw [show ((n.toNat:Nat):Int)=n by omega] at this
 simpa using this
theorem K8 {i:Nat} {t:Tok} {u:Value} {l:List PV} {value slice:Expr} (I:Inv c ρ st s.heap) (hu:RV c s.heap ρ (.obj i) u) (hi:st[i]?=some (.list l)) (hl:l.length≤100000)
  (q:Q (.obj st.length) (st++[.list (l.drop (l.length-1))])) :
  wpAny (model c.prog c.w) A (subscriptTail value slice u (.ref s.heap.objs.size)) (Res c ρ s Q) CG { s with heap:=s.heap.push (Bq (.int (-1) t) .none .none) }:=by
 refine Dh I hu hi hl (.int _ _) .none .none nofun (fun vs hv ρ h r=>?_) q
 refine ⟨vs.drop (vs.length-1),?_,?_⟩
 ·have:=slicePick_last vs.toArray 1 (by omega)
  simpa using this
 ·rw [hv];exact r.drop _
theorem Qw {i:Nat} {t:Tok} {u:Value} {l:List PV} {value slice:Expr} (I:Inv c ρ st s.heap) (hu:RV c s.heap ρ (.obj i) u) (hi:st[i]?=some (.list l)) (hl:l.length≤100000)
  (q:Q (.obj st.length) (st++[.list l.reverse])) :
  wpAny (model c.prog c.w) A (subscriptTail value slice u (.ref s.heap.objs.size)) (Res c ρ s Q) CG { s with heap:=s.heap.push (Bq .none .none (.int (-1) t)) }:=by
 refine Dh I hu hi hl .none .none (.int _ _) (by simp) (fun vs hv ρ h r=>?_) q
 refine ⟨vs.reverse,?_,r.reverse⟩
 have:=PySem.W.krv_pick vs.toArray
 simpa using this
theorem Gk {t sl:Addr} {items:Array Value} {u:Tok} {P:Value→Shared→Prop} {E:Value→Shared→Prop} (ht:IsTup s.heap t items) (hs:s.heap.IsSliceOf sl (.int 0 u) .none .none)
  (h:P (.ref t) s):wpAny (model c.prog c.w) A (getItem (.ref t) (.ref sl)) P E s:=by
 refine oEAA (id hs) fun os hos hcs hds=>?_
 have hTs:s.TypeIs (.ref sl) "slice":=⟨os,hos,hcs⟩
 unfold getItem
 try with_reducible refine wpAny_holding ?_
 first | refine wpAny_bind (wpAny_pure ?_) | skip
 refine wpAny_bind (wpAny_sequenceKey ht.typeIs (by decide) ?_)
 refine wpAny_bind (wpAny_callSpecial?_slot (name:=sO "__getitem__") ht.typeIs slot_tuple_getitem
  (wpAny_call_entry slot_tuple_getitem ht.typeIs entry_tuple_getitem ?_ (args_tuple_getitem _ _)))
 show wpAny _ _ (Builtin.Tuple.tupleItemsOf (.ref t) >>= _) _ _ s
 refine wpAny_bind (tupleItemsOf_ ht ?_)
 refine wpAny_bind (wpAny_typeOf hTs ?_)
 rw [if_pos (by decide)]
 refine wpAny_bind (sliceApplied_from (a:=0) (n:=items.size) hs (by omega) ?_)
 show wpAny _ _ (if ((0:Int)==0&&(1:Int)==1&&(items.size-0)==items.size)=true then _ else _) _ _ s
 rw [if_pos (by simp)]
 refine wpAny_bind (m:=Builtin.Tuple.tupleIsExact _) (wpAny_bind (wpAny_typeOf ht.typeIs (wpAny_pure ?_)))
 exact wpAny_bind (wpAny_rule (wpAny_pure ⟨_,rfl,wpAny_pure h⟩))
theorem Ma {n:Int} {t:Tok} {u:Value} {l:List PV} {value slice:Expr} (I:Inv c ρ st s.heap) (hu:RV c s.heap ρ (.tup l) u) (h0:0≤n) (hn:n≤l.length) (hl:l.length≤100000)
  (q:Q (.tup (l.drop n.toNat)) st) :
  wpAny (model c.prog c.w) A (subscriptTail value slice u (.ref s.heap.objs.size)) (Res c ρ s Q) CG { s with heap:=s.heap.push (Bq (.int n t) .none .none) }:=by
 have I2:=I.slice (l:=.int n t) (u:=.none) (x:=.none)
 have k1:Kept ρ s.heap ρ (s.heap.push (Bq (.int n t) .none .none)):=Kept.all fun _ _ e=>Heap.get?_push_of_some _ e
 have hu3:=RV.keep k1 _ _ hu
 refine oEEAAA (IU hu3) fun a vs z0 T hna rs=>?_;subst z0
 have n1:=rs.length
 refine Df (s:={ s with heap:=s.heap.push (Bq (.int n t) .none .none) }) T.typeIs slot_tuple_getitem.lookup ?_
 by_cases h1:n=0
 ·subst h1
  exact Gk T (Heap.IsSliceOf.new _ _ _ _) (Dj (Id (s:={ s with heap:=s.heap.push (Bq (.int 0 t) .none .none) }) I2 hu3 (q)))
 ·have hs:=Heap.IsSliceOf.new s.heap (.int n t) .none .none
  rw [show n=((n.toNat:Nat):Int) by omega] at hs
  refine getItem_tuple_from (a:=n.toNat) T (by rw [show n=((n.toNat:Nat):Int) by omega];exact hs) (by omega) (by simp only [List.size_toArray];omega) ?_ (by simp only [List.size_toArray,sizeLine];omega)
  exact Dj (KH (s:={ s with heap:=s.heap.push (Bq (.int n t) .none .none) }) I2 (rs.drop _) q)
end
end Mine
end
section
namespace Mine
open PySem PySem.W PyProof.Rows PySem.Spec PyProof.Rows.LSm PySem.Calls
open scoped Classical
section
variable {c:Cx} {A:Around} {ρ:List Addr} {st:St} {s:Shared} {Q:PV→St→Prop}
theorem E9 {x:PV} {v:Value} {h':Heap} {tk:Nat} (I:Inv c ρ st s.heap) (hk:∀ b o,s.heap.get? b=some o→h'.get? b=some o) (hz:s.heap.objs.size≤h'.objs.size) (r:RV c s.heap ρ x v) (q:Q x st) :
  Res c ρ s Q v { s with heap:=h',toks:=tk } :=
 ⟨ρ,st,x,q,Step.grow hk hz,I.all hk hz,RV.keep (Kept.all hk) _ _ r⟩
theorem TC {a:Addr} {obj:Obj} {po:PO} {h':Heap} {tk:Nat} (I:Inv c ρ st s.heap) (hk:∀ b o,s.heap.get? b=some o→h'.get? b=some o) (hz:s.heap.objs.size≤h'.objs.size) (ha:s.heap.objs.size≤a)
  (hg:h'.get? a=some obj) (hd:obj.cls≠.type "tuple"∧∀ vs,obj.data≠.fields vs)
  (hor:∀ ρ',Kept ρ s.heap ρ' h'→OR c h' ρ' a po) (q:Q (.obj st.length) (st++[po])):Res c ρ s Q (.ref a) { s with heap:=h',toks:=tk }:=by
 have I':=I.all hk hz
 have k1:Kept ρ s.heap ρ h':=Kept.all hk
 have tt:∀ o,h'.get? a=some o→(∀ items n,o.data=.seq items n→o.cls≠.type "tuple")∧∀ vs,o.data≠.fields vs:=by
  intro o e;rw [hg] at e;obtain rfl:=sI e;exact ⟨fun _ _ _=>hd.1,hd.2⟩
 have nn:∀ b,b∈ρ++[a]→b∈ρ∨b=a:=fun b q=>(mA q).imp id List.mem_singleton.mp
 have k2:Kept ρ s.heap (ρ++[a]) h':=by
  refine ⟨fun i b e=>by rw [List.getElem?_append_left (gI e).1];exact e,fun b items t n=>⟨(k1.tup _ _ t n).1,fun q=>?_⟩,fun b lo hi t u x r n=>⟨(k1.rng _ _ _ _ _ _ r n).1,fun q=>?_⟩⟩
  ·rcases nn b q with q | rfl
   ·exact n q
   ·refine oEA t fun o ho _=>?_
    exact Nat.lt_irrefl _ (Nat.lt_of_lt_of_le (Heap.lt_size ho) ha)
  ·rcases nn b q with q | rfl
   ·exact n q
   ·exact Nat.lt_irrefl _ (Nat.lt_of_lt_of_le (Heap.lt_size r) ha)
 refine oA (I'.add (a:=a) (po:=po) (fun q=>Nat.lt_irrefl _ (Nat.lt_of_lt_of_le (I.lt _ q) ha)) (Nat.le_trans I.bs ha) (Heap.lt_size hg) tt (hor _ k2)) fun I2 _=>?_
 refine ⟨ρ++[a],_,_,q,Step.grow1 ha hk hz,I2,?_⟩
 exact G6 (by rw [←I.len];exact List.getElem?_concat_length)
theorem QL {h:Heap} {ns:List Int}:∀ {vs:List Value},AQ c h ρ (ns.map .int) vs→IntsAre vs ns:=by
 induction ns with
 | nil=>intro vs p;rw [p.unnil];exact .nil
 | cons n ns ih =>
  intro vs p
  refine oEEAA (AQ.uncons p) fun v r z0 z1 b=>?_;subst z0;obtain ⟨t,rfl⟩:=z1
  exact .cons _ _ (ih b)
theorem of_ints {h:Heap} {ns:List Int} {vs:List Value} (p:IntsAre vs ns):AQ c h ρ (ns.map .int) vs:=by
 induction p with
 | nil=>exact AQ.nil
 | cons n t r ih=>exact AQ.cons Cl ih
theorem Ub {h:Heap} {ns:List Bool}:∀ {vs:List Value},AQ c h ρ (ns.map .bool) vs→BoolsAre vs ns:=by
 induction ns with
 | nil=>intro vs p;rw [p.unnil];exact .nil
 | cons n ns ih =>
  intro vs p
  refine oEEAA (AQ.uncons p) fun v r z0 a b=>?_;subst z0
  cases a
  exact .cons _ (ih b)
theorem AQ.one {h:Heap} {x:PV} {vs:List Value} (r:AQ c h ρ [x] vs):∃ v,vs=[v]∧RV c h ρ x v:=by
 refine oEEAA (r.uncons) fun v r z0 a b=>?_;subst z0
 exact ⟨v,by rw [b.unnil],a⟩
theorem AQ.two {h:Heap} {x y:PV} {vs:List Value} (r:AQ c h ρ [x,y] vs):∃ v u,vs=[v,u]∧RV c h ρ x v∧RV c h ρ y u:=by
 refine oEEAA (r.uncons) fun v r z0 a b=>?_;subst z0
 refine oEA (b.one) fun u z0 b2=>?_;subst z0
 exact ⟨v,u,rfl,a,b2⟩
theorem OR.live {h:Heap} {a:Addr} {po:PO} (x:OR c h ρ a po):∃ o,h.get? a=some o:=by
 cases po with
 | list l=>refine oEA x fun vs z0 _=>?_;obtain ⟨n,ho⟩:=z0;exact ⟨_,ho⟩
 | dict l=>rcases x with ⟨_,⟨o,_,_,ho,_⟩,_⟩ | ⟨_,⟨o,_,_,ho,_⟩,_⟩<;>exact ⟨o,ho⟩
 | inst k d=>refine oEEAA x fun C dx _ h2 _=>?_;exact ⟨_,h2⟩
 | attrs l=>refine oEEA x fun es n h1 _=>?_;exact ⟨_,h1⟩
theorem Inv.alive {h:Heap} (I:Inv c ρ st h) (b:Addr) (hb:b∈ρ):∃ o,h.get? b=some o:=by
 refine oE (List.getElem?_of_mem hb) fun i hi=>?_
 have hl:i<st.length:=by have:=(gI hi).1;have:=I.len;omega
 exact (I.objs i b _ hi (List.getElem?_eq_getElem hl)).live
theorem LA {n:Int} {v:Value} (I:Inv c ρ st s.heap) (rs:RV c s.heap ρ (.int n) v) (q:Q (.rng 0 n) st):wpAny (model c.prog c.w) A (call (.type "range") [v]) (Res c ρ s Q) CG s:=by
 obtain ⟨t,rfl⟩:=rs
 exact call_range_1 ⟨ρ,st,_,q,Step.grow (fun _ _ e=>Heap.get?_push_of_some _ e) (by rw [Heap.size_push];omega),I.push _,OO (IsRange.new _ _ _ _ _ _ _) (IE (I:=I))⟩
theorem K9 {m n:Int} {u v:Value} (I:Inv c ρ st s.heap) (ru:RV c s.heap ρ (.int m) u) (rs:RV c s.heap ρ (.int n) v) (q:Q (.rng m n) st):wpAny (model c.prog c.w) A (call (.type "range") [u,v]) (Res c ρ s Q) CG s:=by
 obtain ⟨t,rfl⟩:=rs
 obtain ⟨t,rfl⟩:=ru
 exact call_range_2 ⟨ρ,st,_,q,Step.grow (fun _ _ e=>Heap.get?_push_of_some _ e) (by rw [Heap.size_push];omega),I.push _,OO (IsRange.new _ _ _ _ _ _ _) (IE (I:=I))⟩
theorem OK {a b:Int} {u v:Value} {n:Nat} (hA:Ok A n) (I:Inv c ρ st s.heap) (ru:RV c s.heap ρ (.int a) u) (rs:RV c s.heap ρ (.int b) v) (q:Q (.int (if a<b then b else a)) st):wpAny (model c.prog c.w) A (call (.builtin "max") [u,v]) (Res c ρ s Q) CG s:=by
 refine oE (int_at rs) fun t z0=>?_;subst z0
 refine oE (int_at ru) fun t z0=>?_;subst z0
 refine AY (wpAny_mono (max_two_ints (Q:=fun r s'=>s.heap.objs.size≤s'.heap.objs.size→Res c ρ s Q r s') hA.hd fun h' tk hk hz=>?_) (fun _ _ x=>x) fun _ _ x=>x)
 refine E9 I hk hz ?_ q
 by_cases hb:a<b
 ·rw [if_pos hb,if_pos hb];exact Cl
 ·rw [if_neg hb,if_neg hb];exact Cl
theorem OJ {i:Nat} {l:List PV} {ns:List Int} {v:Value} {n:Nat} (hA:Ok A n) (I:Inv c ρ st s.heap) (rv:RV c s.heap ρ (.obj i) v) (hi:st[i]?=some (.list l)) (e:l=ns.map .int) (hne:ns≠[])
  (q:∀ m∈ns,(∀ a∈ns,a≤m)→Q (.int m) st):wpAny (model c.prog c.w) A (call (.builtin "max") [v]) (Res c ρ s Q) CG s:=by
 subst e
 refine oEAAEA (I.lst rv hi) fun a z0 ha vs hl r2=>?_;subst z0
 have hI:=QL r2
 refine oE (hI.allInts.items) fun xs e=>?_
 have hns:ns=xs.toList.map (·.1):=by rw [←hI.numsOf,←nums_intItems,←e]
 have hsz:0<xs.size:=by
  have h3:0<ns.length:=List.length_pos_iff.mpr hne
  rw [hns,List.length_map,Array.length_toList] at h3;exact h3
 rw [e] at hl
 refine AY (wpAny_mono (max_intList (Q:=fun r s'=>s.heap.objs.size≤s'.heap.objs.size→Res c ρ s Q r s') hA.hd hl hsz fun v h' tk hv hk hz=>?_) (fun _ _ x=>x) fun _ _ x=>x)
 refine oE (intItems_at hv) fun t z0=>?_;subst z0
 refine oA (argBest_gt (numAt xs) (xs.size-1)) fun h1 h2=>?_
 refine E9 I hk hz Cl (q _ ?_ fun a ha=>?_)
 ·rw [hns,numAt_eq];exact getD_mem (by rw [List.length_map,Array.length_toList];omega)
 ·rw [hns] at ha
  refine oEA (mem_getD ha) fun j hj z0=>?_;subst z0
  rw [List.length_map,Array.length_toList] at hj
  rw [←numAt_eq];exact h2 j (by omega)
theorem OI {i:Nat} {l:List PV} {ns:List Int} {v:Value} {n:Nat} (hA:Ok A n) (I:Inv c ρ st s.heap) (rv:RV c s.heap ρ (.obj i) v) (hi:st[i]?=some (.list l)) (e:l=ns.map .int) (hne:ns≠[])
  (q:∀ m∈ns,(∀ a∈ns,m≤a)→Q (.int m) st):wpAny (model c.prog c.w) A (call (.builtin "min") [v]) (Res c ρ s Q) CG s:=by
 subst e
 refine oEAAEA (I.lst rv hi) fun a z0 ha vs hl r2=>?_;subst z0
 have hI:=QL r2
 refine oE (hI.allInts.items) fun xs e=>?_
 have hns:ns=xs.toList.map (·.1):=by rw [←hI.numsOf,←nums_intItems,←e]
 have hsz:0<xs.size:=by
  have h3:0<ns.length:=List.length_pos_iff.mpr hne
  rw [hns,List.length_map,Array.length_toList] at h3;exact h3
 rw [e] at hl
 refine AY (wpAny_mono (min_intList (Q:=fun r s'=>s.heap.objs.size≤s'.heap.objs.size→Res c ρ s Q r s') hA.hd hl hsz fun v h' tk hv hk hz=>?_) (fun _ _ x=>x) fun _ _ x=>x)
 refine oE (intItems_at hv) fun t z0=>?_;subst z0
 refine oA (argBest_lt (numAt xs) (xs.size-1)) fun h1 h2=>?_
 refine E9 I hk hz Cl (q _ ?_ fun a ha=>?_)
 ·rw [hns,numAt_eq];exact getD_mem (by rw [List.length_map,Array.length_toList];omega)
 ·rw [hns] at ha
  refine oEA (mem_getD ha) fun j hj z0=>?_;subst z0
  rw [List.length_map,Array.length_toList] at hj
  rw [←numAt_eq];exact h2 j (by omega)
theorem Qz {i:Nat} {l:List PV} {bs:List Bool} {v:Value} {n:Nat} (hA:Ok A n) (I:Inv c ρ st s.heap) (rv:RV c s.heap ρ (.obj i) v) (hi:st[i]?=some (.list l)) (e:l=bs.map .bool)
  (q:Q (.bool (bs.all id)) st):wpAny (model c.prog c.w) A (call (.builtin "all") [v]) (Res c ρ s Q) CG s:=by
 subst e
 refine oEAAEA (I.lst rv hi) fun a z0 ha vs hl r2=>?_;subst z0
 have hb:=Ub r2
 have hlt:a<s.heap.objs.size:=by refine oEA hl fun _ e _=>?_;exact Heap.lt_size e
 refine AY (wpAny_mono (call_all_walk (Q:=fun r s'=>s.heap.objs.size≤s'.heap.objs.size→Res c ρ s Q r s') (wpAny_pyIter_list hl ?_)) (fun _ _ x=>x) fun _ _ x=>x)
 refine ⟨s.heap.objs.size,[s.heap.objs.size,a],[s.heap.objs.size],vs.toArray.size,_,_,fun i=>(bs[i]?).getD true,rfl,Walks.list (A:=A.in1) hA.hd _ a (Nat.ne_of_lt hlt) vs.toArray,
  ⟨⟨_,Heap.get?_push_size _ rfl,rfl,rfl⟩,hl.push _⟩,fun i v s' Q' E' hP hQ=>?_,fun h' tk hk hz=>?_⟩
 ·refine oEA (hb.get i v (by simpa using hP)) fun b e z0=>?_;subst z0
  simp only [e,Option.getD_some] at hQ
  exact wpAny_truthy_bool hQ
 ·have e:((List.range vs.toArray.size).all fun i=>(bs[i]?).getD true)=bs.all id:=by
   rw [List.size_toArray,hb.length];exact range_all bs
  rw [e]
  exact E9 I (kept_iter hk) hz H7 q
theorem MY {i:Nat} {l:List PV} {v:Value} (I:Inv c ρ st s.heap) (rv:RV c s.heap ρ (.obj i) v) (hi:st[i]?=some (.list l)) (hl:l.length≤100000)
  (q:Q (.tup l) st):wpAny (model c.prog c.w) A (call (.type "tuple") [v]) (Res c ρ s Q) CG s:=by
 refine oEAAEA (I.lst rv hi) fun a z0 ha vs L1 r2=>?_;subst z0
 refine AY (wpAny_mono (call_tuple_list (Q:=fun r s'=>s.heap.objs.size≤s'.heap.objs.size→Res c ρ s Q r s') L1 (fun h' hk hz=>?_) (Kx r2.length hl)) (fun _ _ x=>x) fun _ _ x=>x)
 have hk2:∀ b o,s.heap.get? b=some o→(h'.push { cls:=.type "tuple",data:=.seq vs.toArray }).get? b=some o:=fun b o e=>Heap.get?_push_of_some _ (hk b o e)
 refine ⟨ρ,st,_,q,Step.grow hk2 hz,I.all hk2 hz,LD ⟨_,Heap.get?_push_size _ rfl,rfl,_,rfl⟩ (fun q=>?_) (AQ.keep (Kept.all hk2) _ _ r2)⟩
 refine oE (I.alive _ q) fun o ho=>?_
 exact Nat.lt_irrefl _ (Heap.lt_size (hk _ _ ho))
theorem Qv {n:Int} {v:Value} (I:Inv c ρ st s.heap) (rs:RV c s.heap ρ (.int n) v) (h0:0≤n) (hn:n≤100000) (q:Q (.str (Str.ofString (toString n))) st):wpAny (model c.prog c.w) A (call (.type "str") [v]) (Res c ρ s Q) CG s:=by
 refine oE (int_at rs) fun t z0=>?_;subst z0
 refine PySem.P.str_of_int ?_ (LE I q)
 have:n.natAbs<2 ^ 20:=by omega
 have h2:=(Nat.log2_lt (n:=n.natAbs) (k:=1920))
 by_cases h3:n.natAbs=0
 ·rw [h3];decide
 ·rw [h2 h3];exact Nat.lt_of_lt_of_le this (Nat.pow_le_pow_right (by omega) (by omega))
theorem Kb:∀ {vs:List Value} {ns:List Int},vs.length=ns.length→(∀ (j:Nat) (v:Value),vs[j]?=some v→∃ (i:Int) (t:Tok),ns[j]?=some i∧v=Value.int i t)→IntsAre vs ns
 | [],[],_,_=>.nil
 | [],_::_,h,_=>by simp at h
 | _::_,[],h,_=>by simp at h
 | v::vs,n::ns,h,hv=>by
  refine oEEA (hv 0 v (by simp)) fun i t h1 z0=>?_;subst z0
  simp at h1
  subst h1
  exact .cons _ _ (Kb (by simpa using h) fun j v hj=>by
   refine oEEA (hv (j+1) v (by simpa using hj)) fun i t h1 h2=>?_
   exact ⟨i,t,by simpa using h1,h2⟩)
theorem isInt_shape {k:Int} {v:Value} (h:(intKind c.prog c.w).is k v=true):∃ t,v=.int k t:=by
 cases v with
 | int i t=>simp [intKind,Value.isInt] at h;subst h;exact ⟨t,rfl⟩
 | _=>simp [intKind,Value.isInt] at h
theorem K7 {i:Nat} {l:List (PV×PV)} {ns:List Int} {v:Value} {n:Nat} (hA:Ok A n) (I:Inv c ρ st s.heap) (rv:RV c s.heap ρ (.obj i) v) (hi:st[i]?=some (.dict l)) (e:l.map (·.1)=ns.map PV.int) (h64:ns.length<64)
  (q:∀ ns':List Int,ns'.Perm ns→ns'.Pairwise (·≤·)→Q (.obj st.length) (st++[.list (ns'.map .int)])):wpAny (model c.prog c.w) A (call (.builtin "sorted") [v]) (Res c ρ s Q) CG s:=by
 refine oEAA (I.obj rv hi) fun a z0 ha ho=>?_;subst z0
 have hk:∀ p∈l,p.1.isInt=true:=fun p hp=>by
  have:p.1∈l.map (·.1):=List.mem_map_of_mem hp
  rw [e] at this
  refine oEA (mQ this) fun i _ h=>?_
  rw [←h];rfl
 refine oEAA (Ds ho hk) fun kvs hd e2 _=>?_
 have hns:ns=kvs.map (·.1):=by
  have h1:=e.symm.trans e2
  have h2:(ns.map PV.int)=(kvs.map (·.1)).map PV.int:=by rw [h1,List.map_map];rfl
  exact (List.map_inj_right (fun x y h=>by cases h;rfl)).mp h2
 have hlen:kvs.length<64:=by have:=congrArg List.length hns;simp at this;omega
 refine oE (hd.dictAt) fun ep Ov=>?_
 refine AY ?_
 refine call_function_entry kind_sorted plain_sorted entry_sorted (args_sorted1 _) ?_
 unfold Builtin.«sorted»
 refine wpAny_bind (m:=checkCount "sorted" 1 1 _) (wpAny_pure ?_)
 refine wpAny_bind (AY (kdu_collect (A:=A.in1) (kdl_dict (knd:=intKind c.prog c.w) (kvs:=kvs) (ep:=ep) (I.notSys ha)) hA.hd Ov (by rw [sizeLine];omega) fun h' tk acc hk' hacc hz0=>?_))
 have hl:acc.toList.length=kvs.length:=by rw [Array.length_toList];exact hacc.1
 have hI:IntsAre acc.toList ns:=by
  rw [hns]
  refine Kb (by rw [hl,List.length_map]) fun j v hj=>?_
  refine oEEA (hacc.2 j v (by rw [←Array.getElem?_toList];exact hj)) fun k x h1 h2=>?_
  refine oE (isInt_shape h2) fun t ht=>?_
  exact ⟨k,t,by rw [List.getElem?_map,h1];rfl,ht⟩
 refine wpAny_bind (wpAny_newList ?_ (by rw [hl,sizeLine];omega))
 have hoL:(h'.push { cls:=.type "list",data:=.seq acc.toList.toArray }).get? h'.objs.size=some (seqObj "list" acc.toList.toArray 0):=Heap.get?_push_size _ rfl
 have hk2:∀ b o,s.heap.get? b=some o→(h'.push { cls:=.type "list",data:=.seq acc.toList.toArray }).get? b=some o:=fun b o e=>Heap.get?_push_of_some _ (hk' b o e)
 refine wpAny_bind (wpAny_holding (wpAny_call_entry slot_list_sort ⟨_,hoL,rfl⟩ entry_list_sort (list_sort_tree (s:={ s with heap:=h'.push { cls:=.type "list",data:=.seq acc.toList.toArray },toks:=tk }) hoL hI (by rw [hl];exact hlen) fun out ns' a1 a2 a3=>⟨_,rfl,?_⟩) (args_list_sort _)))
 refine wpAny_pure ⟨_,rfl,fun hz=>?_⟩
 have hdead:∀ b o,s.heap.get? b=some o→b≠h'.objs.size:=fun b o e=>Nat.ne_of_lt (Heap.lt_size (hk' b o e))
 refine oE (sortedHeap_at (out:=out) hoL) fun ee hs=>?_
 show Res c ρ s Q (.ref h'.objs.size) { s with heap:=sortedHeap (h'.push { cls:=.type "list",data:=.seq acc.toList.toArray }) h'.objs.size acc.toList out,toks:=tk }
 refine TC (po:=.list (ns'.map .int)) (obj:=seqObj "list" out ee) I (fun b o e=>?_) hz ?_ hs ⟨fun e=>by simp at e,fun _ e=>nomatch e⟩ (fun ρ' kk=>⟨out.toList,⟨ee,by simpa using hs⟩,of_ints a1⟩) (q ns' a2 a3)
 ·rw [sortedHeap_old (hdead b o e) (Heap.lt_size (hk2 b o e))]
  exact hk2 b o e
 ·exact hz0
end
end Mine
end
section
namespace Mine
open PySem PySem.W PyProof.Rows PySem.Spec
open scoped Classical
section
variable {c:Cx} {A:Around} {ρ:List Addr} {st:St} {s:Shared} {Q:PV→St→Prop}
theorem Sf {b:Bi} {xs:List PV} {vs:List Value} {n:Nat} (hA:Ok A n) (I:Inv c ρ st s.heap) (rs:AQ c s.heap ρ xs vs) (h:N3 st Q b xs) :
  wpAny (model c.prog c.w) A (call (L7 b) vs) (Res c ρ s Q) CG s:=by
 cases h with
 | lenT hl q =>
  refine oEA (rs.one) fun v z0 r=>?_;subst z0
  refine oEEAAA (IU r) fun a ws z0 T _ r2=>?_;subst z0
  exact PyProof.Rows.len_tuple T (Pj r2.length hl) (E8 I (by rw [List.size_toArray,r2.length];exact q))
 | lenL hi hl q =>
  refine oEA (rs.one) fun v z0 r=>?_;subst z0
  refine oEAAEA (I.lst r hi) fun a z0 ha ws L1 r2=>?_;subst z0
  exact PyProof.Rows.len_list L1 (Pj r2.length hl) (E8 I (by rw [List.size_toArray,r2.length];exact q))
 | @lenD i l hi hk hl q =>
  refine oEA (rs.one) fun v z0 r=>?_;subst z0
  refine oEAA (I.obj r hi) fun a z0 ha ho=>?_;subst z0
  refine oEAA (Ds ho hk) fun kvs hd e r2=>?_
  have n1:kvs.length=l.length:=by have:=congrArg List.length e;rw [List.length_map,List.length_map] at this;exact this.symm
  exact call_len_dict (I.notSys ha) hd (by omega) (E8 I (by rw [n1];exact q))
 | rng1 q=>refine oEA (rs.one) fun v z0 r=>?_;subst z0;exact LA I r q
 | rng2 q=>refine oEEAA (rs.two) fun v u z0 r r2=>?_;subst z0;exact K9 I r r2 q
 | max2 q=>refine oEEAA (rs.two) fun v u z0 r r2=>?_;subst z0;exact OK hA I r r2 q
 | maxL hi hne q=>refine oEA (rs.one) fun v z0 r=>?_;subst z0;exact OJ hA I r hi rfl hne q
 | minL hi hne q=>refine oEA (rs.one) fun v z0 r=>?_;subst z0;exact OI hA I r hi rfl hne q
 | sorted hi e h1 q=>refine oEA (rs.one) fun v z0 r=>?_;subst z0;exact K7 hA I r hi e h1 q
 | all hi q=>refine oEA (rs.one) fun v z0 r=>?_;subst z0;exact Qz hA I r hi rfl q
 | tupL hi hl q=>refine oEA (rs.one) fun v z0 r=>?_;subst z0;exact MY I r hi hl q
 | tupT q =>
  refine oEA (rs.one) fun v z0 r=>?_;subst z0
  refine oEEAAA (IU r) fun a ws z0 T r1 r2=>?_;subst z0
  exact call_tuple_same T ⟨ρ,st,_,q,Step.refl,I,r⟩
 | str h0 h1 q=>refine oEA (rs.one) fun v z0 r=>?_;subst z0;exact Qv I r h0 h1 q
theorem OH {n:Int} {t:Tok} {u:Value} {l:List Int} {value slice:Expr} (I:Inv c ρ st s.heap) (hu:RV c s.heap ρ (.fl l) u) (hn:0≤n) (hl:l.length≤100000)
  (q:Q (.obj st.length) (st++[.list ((l.map .int).take n.toNat)])) :
  wpAny (model c.prog c.w) A (subscriptTail value slice u (.ref s.heap.objs.size)) (Res c ρ s Q) CG { s with heap:=s.heap.push (Bq .none (.int n t) .none) }:=by
 have I2:=I.slice (l:=.none) (u:=.int n t) (x:=.none)
 refine oEEAA hu fun a vs z0 z1 hI=>?_;subst z0;obtain ⟨o,ho,hL⟩:=z1
 have L1:(s.heap.push (Bq .none (.int n t) .none)).IsList a vs.toArray:=⟨o,I2.base _ _ ho,hL⟩
 have r:AQ c (s.heap.push (Bq .none (.int n t) .none)) ρ (l.map .int) vs:=of_ints hI
 refine Df (s:={ s with heap:=s.heap.push (Bq .none (.int n t) .none) }) L1.typeIs slot_list_getitem.lookup (wpAny_getItem_list_slice L1 (Heap.IsSliceOf.new _ _ _ _) .none (.int _ _) .none nofun ?_ (Kx r.length (by rw [List.length_map];exact hl)))
 have e:=slicePick_upto' vs.toArray n.toNat
 rw [show ((n.toNat:Nat):Int)=n by omega] at e
 rw [e]
 exact Dj (GI (s:={ s with heap:=s.heap.push (Bq .none (.int n t) .none) }) I2 (r.take n.toNat) q)
end
end Mine
end
section
namespace Mine
open PySem PySem.W PyProof.Rows PySem.Spec
open scoped Classical
noncomputable def Bw (c:Cx) (h:Heap) (ρ:List Addr) (J:Addr) (its:List PV) (k:Nat):PV→Prop
 | .tup l=>its=l∧∃ t vs,h.IsTuple t (List.toArray vs)∧t∉ρ∧AQ c h ρ l vs∧h.IsTupleIter J t k
 | .obj i=>∃ a,ρ[i]?=some a∧h.IsListIter J a k
 | .rng lo hi=>its=EZ lo hi∧k≤its.length∧IsRangeIter h J (lo+k) ((its.length:Int)-k) 1
 | _=>False
section
variable {c:Cx} {A:Around} {ρ:List Addr} {st:St} {s:Shared}
theorem K6 (lo hi:Int):(EZ lo hi).length=(hi-lo).toNat:=(List.length_map _).trans List.length_range
theorem Qt {lo hi:Int} {k:Nat} {y:PV} (h:(EZ lo hi)[k]?=some y):y=.int (lo+k):=by
 unfold EZ at h
 rw [List.getElem?_map] at h
 refine oEA (oM h) fun j e z0=>?_;subst z0
 refine oE (gI e) fun _ ee=>?_
 rw [List.getElem_range] at ee
 rw [←ee]
theorem IZ {x:PV} {its:List PV} {u:Value} {n:Nat} {P:Value→Shared→Prop} {E:Value→Shared→Prop} (I:Inv c ρ st s.heap) (hu:RV c s.heap ρ x u) (h:C2 st x its)
  (q:∀ o:Obj,o.isFreed=false→o.cls≠.type "tuple"→o.cls≠.type "range"→Bw c (s.heap.push o) ρ s.heap.objs.size its 0 x→P (.ref s.heap.objs.size) { s with heap:=s.heap.push o }) :
  wpAny (model c.prog c.w) A (pyIter u) P E s:=by
 cases h with
 | tup l =>
  refine oEEAAA (IU hu) fun a vs z0 t na rs=>?_;subst z0
  have k1:=fun o=>Kept.all (ρ:=ρ) (h:=s.heap) (h':=s.heap.push o) fun _ _ e=>Heap.get?_push_of_some _ e
  exact wpAny_pyIter_tuple t (q _ rfl (by simp) (by simp) ⟨rfl,a,vs,((k1 _).tup _ _ t na).1,na,AQ.keep (k1 _) _ _ rs,⟨_,Heap.get?_push_size _ rfl,rfl,rfl⟩⟩)
 | @rng lo hi h1 h2 h3 h4 =>
  refine oEEEEAA hu fun a t u' x z0 r na=>?_;subst z0
  refine wpAny_pyIter_range r (small_one (by omega) (by omega) (by omega) (by omega)) (q _ rfl (by simp) (by simp) ⟨rfl,Nat.zero_le _,?_⟩)
  have e:Builtin.Range.rangeSize lo hi 1=((EZ lo hi).length:Int)-(0:Nat):=by
   rw [rangeSize_one,K6];split<;>omega
  rw [←e,show lo+((0:Nat):Int)=lo from Int.add_zero lo]
  exact Heap.get?_push_size _ rfl
 | list hi =>
  refine oEAAEA (I.lst hu hi) fun a z0 ha vs L1 r2=>?_;subst z0
  exact wpAny_pyIter_list L1 (q _ rfl (by simp) (by simp) ⟨a,ha,⟨_,Heap.get?_push_size _ rfl,rfl,rfl⟩⟩)
theorem Bw.obj {x:PV} {its:List PV} {k:Nat} {J:Addr} {h:Heap} (it:Bw c h ρ J its k x):∃ o n,h.get? J=some o∧(o.cls=.type n∧∃ vs,o.data=.fields vs)∧(n="tuple_iterator"∨n="list_iterator"∨n="range_iterator"):=by
 cases x with
 | tup l=>refine oAEEAAA it fun _ t vs _ _ _ z0=>?_;obtain ⟨o,ho,hc,hd⟩:=z0;exact ⟨o,_,ho,⟨hc,_,hd⟩,.inl rfl⟩
 | rng lo hi=>refine RG it fun _ _ ho=>?_;exact ⟨_,_,ho,⟨rfl,_,rfl⟩,.inr (.inr rfl)⟩
 | obj i=>refine oEA it fun a _ z0=>?_;obtain ⟨o,ho,hc,hd⟩:=z0;exact ⟨o,_,ho,⟨hc,_,hd⟩,.inr (.inl rfl)⟩
 | _=>exact it.elim
theorem Bw.keep {x:PV} {its:List PV} {k:Nat} {J:Addr} {h h':Heap} {ρ':List Addr} (it:Bw c h ρ J its k x) (kk:Kept ρ h ρ' h') (hj:∀ o,h.get? J=some o→h'.get? J=some o):Bw c h' ρ' J its k x:=by
 cases x with
 | tup l =>
  refine oAEEAAA it fun e t vs h1 h2 h3 z0=>?_;obtain ⟨o,ho,r⟩:=z0
  refine oA (kk.tup _ _ h1 h2) fun h1' h2'=>?_
  exact ⟨e,t,vs,h1',h2',AQ.keep kk _ _ h3,⟨o,hj _ ho,r⟩⟩
 | rng lo hi=>refine RG it fun e h1 ho=>?_;exact ⟨e,h1,hj _ ho⟩
 | obj i=>refine oEA it fun a h1 z0=>?_;obtain ⟨o,ho,r⟩:=z0;exact ⟨a,kk.pre _ _ h1,⟨o,hj _ ho,r⟩⟩
 | _=>exact it.elim
theorem GO {x:PV} {its:List PV} {k:Nat} {J:Addr} {h:Heap} (it:Bw c h ρ J its k x):Off h [J]:=by
 intro b hb o ho
 rw [List.mem_singleton] at hb
 subst hb
 refine oEEAA (it.obj) fun o' n ho' z0 hn=>?_;obtain ⟨hc,_⟩:=z0
 rw [ho] at ho';obtain rfl:=sI ho'
 refine ⟨fun _ _ _=>?_,fun _ _=>?_⟩<;>(rw [hc];rcases hn with rfl | rfl | rfl<;>simp)
theorem Ej {J:Addr} {h h':Heap} (hs:Heap.ExtBut J h h') (ho:Off h [J]):Kept ρ h ρ h' where
 pre:=fun _ _ e=>e
 tup:=fun b items ⟨o,h1,h2,m,h3⟩ n=>⟨⟨o,hs b o (fun e=>by subst e;exact (ho b (by simp) o h1).1 _ _ h3 h2) h1,h2,m,h3⟩,n⟩
 rng:=fun b _ _ _ _ _ r n=>⟨hs b _ (fun e=>by subst e;exact (ho b (by simp) _ r).2 _ rfl rfl) r,n⟩
theorem IY {x:PV} {its:List PV} {k n:Nat} {J:Addr} {P:Option Value→Shared→Prop} {E:Value→Shared→Prop} (hA:Ok A n) (I:Inv c ρ st s.heap) (it:Bw c s.heap ρ J its k x) (hs:same x its st)
  (q1:∀ y,its[k]?=some y→∀ h' u tk,Heap.SameBut J s.heap h'→Bw c h' ρ J its (k+1) x→RV c h' ρ y u→P (some u) { s with heap:=h',toks:=tk })
  (q2:its[k]?=none→∀ h',Heap.ExtBut J s.heap h'→s.heap.objs.size≤h'.objs.size→P none { s with heap:=h' }) :
  wpAny (model c.prog c.w) A (pyNext (.ref J)) P E s:=by
 have ho:=GO it
 have kk:∀ h',Heap.SameBut J s.heap h'→Kept ρ s.heap ρ h':=fun h' sb=>Ej sb.extBut ho
 cases x with
 | tup l =>
  refine oAEEAAA it fun z0 t vs h1 h2 h3 h4=>?_;subst z0
  have n1:=h3.length
  cases hk:its[k]? with
  | none =>
   refine AY (wpAny_mono (wpAny_pyNext_tuple_end (Q:=fun r s'=>s.heap.objs.size≤s'.heap.objs.size→P r s') hA.hd h4 h1 ?_ fun h' he hz=>q2 hk h' he hz) (fun _ _ x=>x) fun _ _ x=>x)
   exact List.getElem?_toArray.trans (List.getElem?_eq_none (n1▸List.getElem?_eq_none_iff.mp hk))
  | some y =>
   refine oEA (h3.get hk) fun u hu ru=>?_
   refine wpAny_pyNext_tuple_item h4 h1 (x:=u) (List.getElem?_toArray.trans hu) fun h' hi' sb=>q1 y hk h' u s.toks sb ⟨rfl,t,vs,?_,h2,AQ.keep (kk _ sb) _ _ h3,hi'⟩ (RV.keep (kk _ sb) _ _ ru)
   exact ((kk _ sb).tup _ _ h1 h2).1
 | rng lo hi =>
  refine RG it fun z0 hle h4=>?_;subst z0
  cases hk:(EZ lo hi)[k]? with
  | none =>
   have:=List.getElem?_eq_none_iff.mp hk
   exact AY (wpAny_mono (wpAny_pyNext_range_end (Q:=fun r s'=>s.heap.objs.size≤s'.heap.objs.size→P r s') hA.hd h4 (by omega) fun h' he hz=>q2 hk h' he hz) (fun _ _ x=>x) fun _ _ x=>x)
  | some y =>
   have hlt:=(gI hk).1
   obtain rfl:=Qt hk
   refine wpAny_pyNext_range_item h4 (by omega) fun h' hi' sb=>q1 _ hk h' _ _ sb ⟨rfl,hlt,?_⟩ Cl
   rw [show lo+((k+1:Nat):Int)=lo+k+1 by omega,show ((EZ lo hi).length:Int)-((k+1:Nat):Int)=(EZ lo hi).length-k-1 by omega]
   exact hi'
 | obj i =>
  refine oEA it fun a ha h4=>?_
  refine oEA (I.objs i a _ ha hs) fun vs h0 h3=>?_
  have h1:=h0.isList
  have n1:=h3.length
  cases hk:its[k]? with
  | none =>
   refine AY (wpAny_mono (wpAny_pyNext_list_end (Q:=fun r s'=>s.heap.objs.size≤s'.heap.objs.size→P r s') hA.hd h4 h1 ?_ fun h' he hz=>q2 hk h' he hz) (fun _ _ x=>x) fun _ _ x=>x)
   exact List.getElem?_toArray.trans (List.getElem?_eq_none (n1▸List.getElem?_eq_none_iff.mp hk))
  | some y =>
   refine oEA (h3.get hk) fun u hu ru=>?_
   exact wpAny_pyNext_list_item h4 h1 (x:=u) (List.getElem?_toArray.trans hu) fun h' hi' sb=>q1 y hk h' u s.toks sb ⟨a,ha,hi'⟩ (RV.keep (kk _ sb) _ _ ru)
 | _=>exact it.elim
theorem Me {x:PV} {its:List PV} {k:Nat} {J:Addr} {P:Value→Shared→Prop} {E:Value→Shared→Prop} (it:Bw c s.heap ρ J its k x) (q:P (.ref J) s):wpAny (model c.prog c.w) A (pyIter (.ref J)) P E s:=by
 cases x with
 | tup l=>refine oAEEAAA it fun _ t vs _ _ _ h4=>?_;exact wpAny_pyIter_tupleiter h4 q
 | rng lo hi=>refine RG it fun _ _ h4=>?_;exact wpAny_pyIter_rangeiter h4 q
 | obj i=>refine oEA it fun a _ h4=>?_;exact wpAny_pyIter_listiter h4 q
 | _=>exact it.elim
theorem JC {x:PV} {its:List PV} {k:Nat} {J:Addr} {v:Value} {target:Expr} {P:Unit→Shared→Prop} {E:Value→Shared→Prop} (ht:(∃ y p,target=.Name y p)∨∃ es k p,target=.Tuple es k p) (it:Bw c s.heap ρ J its k x) (q:P () s):wpAny (model c.prog c.w) A (letOwnedTupleGo target (.ref J) v) P E s:=by
 rcases ht with ⟨x,p,rfl⟩ | ⟨es,k,p,rfl⟩
 ·exact wpAny_pure q
 ·refine oEEAA (it.obj) fun z0 n ho z1 hn=>?_;obtain ⟨_,_,_,_⟩:=z0;obtain ⟨hc,vs,hd⟩:=z1
  cases hc;cases hd
  cases v with
  | ref a =>
   refine wpAny_bind (wpAny_load ho ?_)
   show wpAny _ _ (if _ then _ else _) _ _ _
   rw [if_neg (by rcases hn with rfl | rfl | rfl<;>simp)]
   exact wpAny_pure q
  | _=>exact wpAny_pure q
end
end Mine
end
section
namespace Mine
open PySem PySem.W PyProof.Rows PySem.Spec
open scoped Classical
noncomputable def A4 (env:Env):List Addr:=env.locals::env.scope.names.filterMap fun p=>if env.kindOf p.1=some .cell then env.cells.lookup p.1 else none
structure FR (c:Cx) (N:List (Str×NameKind)) (Γ:List (Str×Nat)) (env:Env) (h:Heap) (ρ:List Addr) (σ:Lo):Prop where
 kind:env.scope.kind=.function
 glob:env.globals=mainGlobals
 blt:env.builtins=builtinsNs
 nm:∀ y,N.lookup y=some .globalImplicit→env.kindOf y=some .globalImplicit
 lk:∀ y,N.lookup y=some .local→env.kindOf y=some .local
 ck:∀ y,N.lookup y=some .cell∨N.lookup y=some .free→env.kindOf y=some .cell∧(env.cells.lookup y).isSome=true
 kd:∀ x i,Γ.lookup x=some i→env.kindOf x=some .local∨env.kindOf x=some .cell∧(env.cells.lookup x).isSome=true
 uniq:∀ x y i,Γ.lookup x=some i→Γ.lookup y=some i→x=y
 loc:∃ m,h.Ns env.locals m∧∀ x i v,Γ.lookup x=some i→env.kindOf x=some .local→σ[i]?=some (some v)→∃ u,m x=some u∧RV c h ρ v u
 cel:∀ x a,env.kindOf x=some .cell→env.cells.lookup x=some a→∃ w,h.IsCell a w∧∀ i v,Γ.lookup x=some i→σ[i]?=some (some v)→∃ u,w=some u∧RV c h ρ v u
 inj:∀ x y a,env.kindOf x=some .cell→env.kindOf y=some .cell→env.cells.lookup x=some a→env.cells.lookup y=some a→x=y
 out:∀ b∈A4 env,b∉ρ∧c.B.objs.size≤b
section
variable {c:Cx} {A:Around} {ρ ρ':List Addr} {N:List (Str×NameKind)} {Γ:List (Str×Nat)} {env:Env} {h h':Heap} {σ:Lo}
theorem Lm {b:Addr} (hb:b∈A4 env):b=env.locals∨∃ x,env.kindOf x=some .cell∧env.cells.lookup x=some b:=by
 rcases mC hb with rfl | hb
 ·exact .inl rfl
 ·refine oEA (List.mem_filterMap.mp hb) fun p _ e=>?_
  split at e
  ·rename_i hk;exact .inr ⟨p.1,hk,e⟩
  ·exact nO e
theorem lookup_mem {α:Type}:∀ {l:List (Str×α)} {n:Str} {k:α},l.lookup n=some k→(n,k)∈l
 | (k',v)::r,n,k,h=>by
  rw [List.lookup_cons] at h
  cases hb:n==k' with
  | true=>rw [hb] at h;obtain rfl:=sI h;rw [beq_iff_eq.mp hb];exact List.mem_cons_self
  | false=>rw [hb] at h;exact List.mem_cons_of_mem _ (lookup_mem h)
theorem IF {x:Str} {a:Addr} (hk:env.kindOf x=some .cell) (hc:env.cells.lookup x=some a):a∈A4 env :=
 List.mem_cons_of_mem _ (List.mem_filterMap.mpr ⟨(x,.cell),lookup_mem hk,by rw [if_pos hk];exact hc⟩)
theorem FR.alive (F:FR c N Γ env h ρ σ) {b:Addr} (hb:b∈A4 env):∃ o,h.get? b=some o∧((∃ es n,o.data=.dict es n)∨∃ w,o.data=.cell w):=by
 rcases Lm hb with rfl | ⟨x,hxk,hx⟩
 ·refine oEA (F.loc) fun m z0 _=>?_;obtain ⟨o,es,ep,ho,hd,_⟩:=z0;exact ⟨o,ho,.inl ⟨_,_,hd⟩⟩
 ·refine oEA (F.cel x b hxk hx) fun w z0 _=>?_;obtain ⟨o,ho,hd⟩:=z0;exact ⟨o,ho,.inr ⟨w,hd⟩⟩
theorem FR.off (F:FR c N Γ env h ρ σ):Off h (A4 env):=by
 intro b hb o ho
 refine oEA (F.alive hb) fun o' ho' hd=>?_
 rw [ho] at ho';obtain rfl:=sI ho'
 refine Or.elim hd (fun z1=>oEE z1 fun es n e=>?_) fun z2=>oE z2 fun w e=>?_<;>exact ⟨fun _ _ q=>absurd (e.symm.trans q) (by simp),fun _ q=>absurd (e.symm.trans q) (by simp)⟩
theorem FR.keep (F:FR c N Γ env h ρ σ) (k:Kept ρ h ρ' h') (hk:∀ b∈A4 env,∀ o,h.get? b=some o→h'.get? b=some o) (ho:∀ b∈A4 env,b∉ρ'):FR c N Γ env h' ρ' σ where
 kind:=F.kind
 glob:=F.glob
 blt:=F.blt
 nm:=F.nm
 lk:=F.lk
 ck:=F.ck
 kd:=F.kd
 uniq:=F.uniq
 loc:=by
  refine oEA (F.loc) fun m z0 f=>?_;obtain ⟨o,es,ep,ho,r⟩:=z0
  exact ⟨m,⟨o,es,ep,hk _ List.mem_cons_self _ ho,r⟩,fun x i v a b e=>by refine oEA (f x i v a b e) fun u e1 e2=>?_;exact ⟨u,e1,RV.keep k _ _ e2⟩⟩
 cel:=fun x a hxk hx=>by
  refine oEA (F.cel x a hxk hx) fun w z0 f=>?_;obtain ⟨o,ho,r⟩:=z0
  exact ⟨w,⟨o,hk _ (IF hxk hx) _ ho,r⟩,fun i v a e=>by refine oEA (f i v a e) fun u e1 e2=>?_;exact ⟨u,e1,RV.keep k _ _ e2⟩⟩
 inj:=F.inj
 out:=fun b hb=>⟨ho b hb,(F.out b hb).2⟩
theorem FR.step {s s':Shared} {fp:List Addr} (F:FR c N Γ env s.heap ρ σ) (x:Step fp ρ s ρ' s') (hf:Off s.heap fp) (hd:∀ b∈A4 env,b∉fp):FR c N Γ env s'.heap ρ' σ :=
 F.keep (x.kept hf) (fun b hb o ho=>x.keep b o ho (F.out b hb).1 (hd b hb)) fun b hb=>by
  refine oEA (F.alive hb) fun o ho _=>?_
  exact x.notin ho (F.out b hb).1
theorem FR.step0 {s s':Shared} (F:FR c N Γ env s.heap ρ σ) (x:Step [] ρ s ρ' s'):FR c N Γ env s'.heap ρ' σ:=F.step x Off.nil fun _ _ q=>nL q
theorem FR.load {s:Shared} {x:Str} {i:Nat} {v:PV} {P:Value→Shared→Prop} {E:Value→Shared→Prop} (F:FR c N Γ env s.heap ρ σ) (hx:Γ.lookup x=some i) (hv:σ[i]?=some (some v))
  (q:∀ u,RV c s.heap ρ v u→P u s):wpAny c.m A (loadName env x) P E s:=by
 refine Or.elim (F.kd x i hx) (fun hk=>?_) fun z1=>oA z1 fun hk hc=>?_
 ·refine oEA (F.loc) fun m hn f=>?_
  refine oEA (f x i v hx hk hv) fun u e r=>?_
  exact wpAny_loadName_local F.kind hk hn e (q u r)
 ·refine oE (Option.isSome_iff_exists.mp hc) fun a ha=>?_
  refine oEA (F.cel x a hk ha) fun w hw f=>?_
  refine oEA (f i v hx hv) fun u e r=>?_
  subst e
  exact wpAny_loadName_cell F.kind hk ha hw (q u r)
theorem E6 {i j:Nat} {a:Option PV} {v:PV} (h:(σ.set i a)[j]?=some (some v)):i=j∧a=some v∨i≠j∧σ[j]?=some (some v):=by
 by_cases e:i=j
 ·subst e
  rw [List.getElem?_set_self'] at h
  cases hh:σ[i]? with
  | none=>rw [hh] at h;exact nO h
  | some y=>rw [hh] at h;exact .inl ⟨rfl,Option.some.inj h⟩
 ·rw [List.getElem?_set_ne e] at h
  exact .inr ⟨e,h⟩
noncomputable def Uw (env:Env) (fp:List Addr) (x:Str):Prop:=(env.kindOf x=some .local→env.locals∈fp)∧∀ a,env.kindOf x=some .cell→env.cells.lookup x=some a→a∈fp
theorem Uw.all {x:Str}:Uw env (A4 env) x:=⟨fun _=>List.mem_cons_self,fun a h1 h2=>IF h1 h2⟩
theorem FR.store {s:Shared} {x:Str} {i:Nat} {v:PV} {u:Value} {fp:List Addr} {P:Unit→Shared→Prop} {E:Value→Shared→Prop} (F:FR c N Γ env s.heap ρ σ) (hx:Γ.lookup x=some i) (hfp:Uw env fp x) (hu:RV c s.heap ρ v u)
  (q:∀ h' tk,(∀ b o,s.heap.get? b=some o→b∉fp→h'.get? b=some o)→s.heap.objs.size=h'.objs.size→Kept ρ s.heap ρ h'→FR c N Γ env h' ρ (σ.set i (some v))→P () { s with heap:=h',toks:=tk }) :
  wpAny c.m A (storeName env x u) P E s:=by
 have hoff:=F.off
 refine Or.elim (F.kd x i hx) (fun hk=>?_) fun z1=>oA z1 fun hk hc=>?_
 ·refine oEA (F.loc) fun m hn f=>?_
  refine wpAny_storeName_local hk hn (fun h' hn' sb=>?_) (by rw [F.kind];rfl)
  have k:Kept ρ s.heap ρ h':=Ej sb.extBut (fun b hb=>hoff b (by rw [List.mem_singleton.mp hb];exact List.mem_cons_self))
  refine q h' _ (fun b o e hb=>sb.extBut b o (fun e=>hb (e▸hfp.1 hk)) e) sb.1.symm k ⟨F.kind,F.glob,F.blt,F.nm,F.lk,F.ck,F.kd,F.uniq,⟨_,hn',fun y j w hy hky hw=>?_⟩,fun y a hky hya=>?_,F.inj,F.out⟩
  ·rcases E6 hw with ⟨rfl,e⟩ | ⟨hne,hw⟩
   ·obtain rfl:=sI e
    have:=F.uniq x y i hx hy
    subst this
    exact ⟨u,by simp,RV.keep k _ _ hu⟩
   ·refine oEA (f y j w hy hky hw) fun u' e r=>?_
    have hyx:y≠x:=fun e=>hne (by subst e;rw [hx] at hy;obtain rfl:=sI hy;rfl)
    exact ⟨u',by rw [if_neg hyx];exact e,RV.keep k _ _ r⟩
  ·refine oEA (F.cel y a hky hya) fun w z0 g=>?_;obtain ⟨o,ho,hd⟩:=z0
   have hne:a≠env.locals:=by
    rintro rfl
    refine oEEEAA hn fun o' es ep ho' hd' _=>?_
    rw [ho] at ho';obtain rfl:=sI ho'
    rw [hd] at hd';cases hd'
   refine ⟨w,⟨o,sb.extBut a o hne ho,hd⟩,fun j v' hy hw=>?_⟩
   rcases E6 hw with ⟨rfl,e⟩ | ⟨hne,hw⟩
   ·have:=F.uniq x y i hx hy
    subst this
    rw [hk] at hky;cases hky
   ·refine oEA (g j v' hy hw) fun u' e r=>?_
    exact ⟨u',e,RV.keep k _ _ r⟩
 ·refine oE (Option.isSome_iff_exists.mp hc) fun a ha=>?_
  refine oEA (F.cel x a hk ha) fun w hw f=>?_
  have haf:=IF hk ha
  refine wpAny_storeName_cell F.kind hk ha hw fun h' hc' sb=>?_
  have k:Kept ρ s.heap ρ h':=Ej sb.extBut (fun b hb=>hoff b (by rw [List.mem_singleton.mp hb];exact haf))
  refine q h' s.toks (fun b o e hb=>sb.extBut b o (fun e=>hb (e▸hfp.2 a hk ha)) e) sb.1.symm k ⟨F.kind,F.glob,F.blt,F.nm,F.lk,F.ck,F.kd,F.uniq,?_,fun y b hky hyb=>?_,F.inj,F.out⟩
  ·refine oEA (F.loc) fun m hn g=>?_
   have hne:env.locals≠a:=by
    rintro rfl
    refine oEEEAA hn fun o' es ep ho' hd' _=>?_
    refine oEA hw fun o ho hd=>?_
    rw [ho] at ho';obtain rfl:=sI ho'
    rw [hd] at hd';cases hd'
   refine ⟨m,hn.sameBut sb hne,fun y j w' hy hky hw'=>?_⟩
   rcases E6 hw' with ⟨rfl,e⟩ | ⟨hne,hw'⟩
   ·have:=F.uniq x y i hx hy
    subst this
    rw [hk] at hky;cases hky
   ·refine oEA (g y j w' hy hky hw') fun u' e r=>?_
    exact ⟨u',e,RV.keep k _ _ r⟩
  ·by_cases hyx:y=x
   ·subst hyx
    rw [ha] at hyb;obtain rfl:=sI hyb
    refine ⟨some u,hc',fun j v' hy hw'=>?_⟩
    rw [hx] at hy;obtain rfl:=sI hy
    refine Or.elim (E6 hw') (fun z1=>oA z1 fun _ e=>?_) fun z2=>oA z2 fun hne _=>?_
    ·obtain rfl:=sI e;exact ⟨u,rfl,RV.keep k _ _ hu⟩
    ·exact absurd rfl hne
   ·refine oEA (F.cel y b hky hyb) fun w' z0 g=>?_;obtain ⟨o,ho,hd⟩:=z0
    have hba:b≠a:=fun e=>hyx (F.inj y x b hky hk hyb (e▸ha))
    refine ⟨w',⟨o,sb.extBut b o hba ho,hd⟩,fun j v' hy hw'=>?_⟩
    rcases E6 hw' with ⟨rfl,e⟩ | ⟨hne,hw'⟩
    ·exact absurd (F.uniq x y i hx hy).symm hyx
    ·refine oEA (g j v' hy hw') fun u' e r=>?_
     exact ⟨u',e,RV.keep k _ _ r⟩
end
end Mine
end
section
namespace Mine
open PySem PySem.W PyProof.Rows PySem.Spec
open scoped Classical
noncomputable def Pq (e:Expr) (k:BoolOp→List Expr→Pos→Bool):Bool:=if h:e.ctorIdx=0 then Expr.BoolOp.elim (motive_1:=fun _=>Bool) e h k else false
theorem MP {e:Expr} {k:BoolOp→List Expr→Pos→Bool} (h:Pq e k=true):∃ a b c,e=.BoolOp a b c∧k a b c=true :=
 (dB h).elim fun q h=>Expr.BoolOp.elim (motive_1:=fun e=>∀ q:e.ctorIdx=0,Expr.BoolOp.elim (motive_1:=fun _=>Bool) e q k=true→∃ a b c,e=.BoolOp a b c∧k a b c=true) e q (fun a b c _ h=>⟨a,b,c,rfl,h⟩) q h
noncomputable def N9 (e:Expr) (k:Expr→Operator→Expr→Pos→Bool):Bool:=if h:e.ctorIdx=2 then Expr.BinOp.elim (motive_1:=fun _=>Bool) e h k else false
theorem Pr {e:Expr} {k:Expr→Operator→Expr→Pos→Bool} (h:N9 e k=true):∃ a b c d,e=.BinOp a b c d∧k a b c d=true :=
 (dB h).elim fun q h=>Expr.BinOp.elim (motive_1:=fun e=>∀ q:e.ctorIdx=2,Expr.BinOp.elim (motive_1:=fun _=>Bool) e q k=true→∃ a b c d,e=.BinOp a b c d∧k a b c d=true) e q (fun a b c d _ h=>⟨a,b,c,d,rfl,h⟩) q h
noncomputable def GD (e:Expr) (k:UnaryOp→Expr→Pos→Bool):Bool:=if h:e.ctorIdx=3 then Expr.UnaryOp.elim (motive_1:=fun _=>Bool) e h k else false
theorem E4 {e:Expr} {k:UnaryOp→Expr→Pos→Bool} (h:GD e k=true):∃ a b c,e=.UnaryOp a b c∧k a b c=true :=
 (dB h).elim fun q h=>Expr.UnaryOp.elim (motive_1:=fun e=>∀ q:e.ctorIdx=3,Expr.UnaryOp.elim (motive_1:=fun _=>Bool) e q k=true→∃ a b c,e=.UnaryOp a b c∧k a b c=true) e q (fun a b c _ h=>⟨a,b,c,rfl,h⟩) q h
noncomputable def SI (e:Expr) (k:Expr→Expr→Expr→Pos→Bool):Bool:=if h:e.ctorIdx=5 then Expr.IfExp.elim (motive_1:=fun _=>Bool) e h k else false
theorem Po {e:Expr} {k:Expr→Expr→Expr→Pos→Bool} (h:SI e k=true):∃ a b c d,e=.IfExp a b c d∧k a b c d=true :=
 (dB h).elim fun q h=>Expr.IfExp.elim (motive_1:=fun e=>∀ q:e.ctorIdx=5,Expr.IfExp.elim (motive_1:=fun _=>Bool) e q k=true→∃ a b c d,e=.IfExp a b c d∧k a b c d=true) e q (fun a b c d _ h=>⟨a,b,c,d,rfl,h⟩) q h
noncomputable def SL (e:Expr) (k:List (Option Expr)→List Expr→Pos→Bool):Bool:=if h:e.ctorIdx=6 then Expr.Dict.elim (motive_1:=fun _=>Bool) e h k else false
theorem SJ {e:Expr} {k:List (Option Expr)→List Expr→Pos→Bool} (h:SL e k=true):∃ a b c,e=.Dict a b c∧k a b c=true :=
 (dB h).elim fun q h=>Expr.Dict.elim (motive_1:=fun e=>∀ q:e.ctorIdx=6,Expr.Dict.elim (motive_1:=fun _=>Bool) e q k=true→∃ a b c,e=.Dict a b c∧k a b c=true) e q (fun a b c _ h=>⟨a,b,c,rfl,h⟩) q h
noncomputable def G4 (e:Expr) (k:Expr→List Comprehension→Scope→Pos→Bool):Bool:=if h:e.ctorIdx=8 then Expr.ListComp.elim (motive_1:=fun _=>Bool) e h k else false
theorem Fg {e:Expr} {k:Expr→List Comprehension→Scope→Pos→Bool} (h:G4 e k=true):∃ a b c d,e=.ListComp a b c d∧k a b c d=true :=
 (dB h).elim fun q h=>Expr.ListComp.elim (motive_1:=fun e=>∀ q:e.ctorIdx=8,Expr.ListComp.elim (motive_1:=fun _=>Bool) e q k=true→∃ a b c d,e=.ListComp a b c d∧k a b c d=true) e q (fun a b c d _ h=>⟨a,b,c,d,rfl,h⟩) q h
noncomputable def MO (e:Expr) (k:Expr→List CmpOp→List Expr→Pos→Bool):Bool:=if h:e.ctorIdx=15 then Expr.Compare.elim (motive_1:=fun _=>Bool) e h k else false
theorem J7 {e:Expr} {k:Expr→List CmpOp→List Expr→Pos→Bool} (h:MO e k=true):∃ a b c d,e=.Compare a b c d∧k a b c d=true :=
 (dB h).elim fun q h=>Expr.Compare.elim (motive_1:=fun e=>∀ q:e.ctorIdx=15,Expr.Compare.elim (motive_1:=fun _=>Bool) e q k=true→∃ a b c d,e=.Compare a b c d∧k a b c d=true) e q (fun a b c d _ h=>⟨a,b,c,d,rfl,h⟩) q h
noncomputable def Pp (e:Expr) (k:Expr→List Expr→List Keyword→Pos→Bool):Bool:=if h:e.ctorIdx=16 then Expr.Call.elim (motive_1:=fun _=>Bool) e h k else false
theorem N8 {e:Expr} {k:Expr→List Expr→List Keyword→Pos→Bool} (h:Pp e k=true):∃ a b c d,e=.Call a b c d∧k a b c d=true :=
 (dB h).elim fun q h=>Expr.Call.elim (motive_1:=fun e=>∀ q:e.ctorIdx=16,Expr.Call.elim (motive_1:=fun _=>Bool) e q k=true→∃ a b c d,e=.Call a b c d∧k a b c d=true) e q (fun a b c d _ h=>⟨a,b,c,d,rfl,h⟩) q h
noncomputable def Cb (e:Expr) (k:Const→Nat→Pos→Bool):Bool:=if h:e.ctorIdx=19 then Expr.Constant.elim (motive_1:=fun _=>Bool) e h k else false
theorem Cf {e:Expr} {k:Const→Nat→Pos→Bool} (h:Cb e k=true):∃ a b c,e=.Constant a b c∧k a b c=true :=
 (dB h).elim fun q h=>Expr.Constant.elim (motive_1:=fun e=>∀ q:e.ctorIdx=19,Expr.Constant.elim (motive_1:=fun _=>Bool) e q k=true→∃ a b c,e=.Constant a b c∧k a b c=true) e q (fun a b c _ h=>⟨a,b,c,rfl,h⟩) q h
noncomputable def Cg (e:Expr) (k:Expr→Str→Pos→Bool):Bool:=if h:e.ctorIdx=20 then Expr.Attribute.elim (motive_1:=fun _=>Bool) e h k else false
theorem C8 {e:Expr} {k:Expr→Str→Pos→Bool} (h:Cg e k=true):∃ a b c,e=.Attribute a b c∧k a b c=true :=
 (dB h).elim fun q h=>Expr.Attribute.elim (motive_1:=fun e=>∀ q:e.ctorIdx=20,Expr.Attribute.elim (motive_1:=fun _=>Bool) e q k=true→∃ a b c,e=.Attribute a b c∧k a b c=true) e q (fun a b c _ h=>⟨a,b,c,rfl,h⟩) q h
noncomputable def Bd (e:Expr) (k:Expr→Expr→Pos→Bool):Bool:=if h:e.ctorIdx=21 then Expr.Subscript.elim (motive_1:=fun _=>Bool) e h k else false
theorem Bh {e:Expr} {k:Expr→Expr→Pos→Bool} (h:Bd e k=true):∃ a b c,e=.Subscript a b c∧k a b c=true :=
 (dB h).elim fun q h=>Expr.Subscript.elim (motive_1:=fun e=>∀ q:e.ctorIdx=21,Expr.Subscript.elim (motive_1:=fun _=>Bool) e q k=true→∃ a b c,e=.Subscript a b c∧k a b c=true) e q (fun a b c _ h=>⟨a,b,c,rfl,h⟩) q h
noncomputable def C7 (e:Expr) (k:Str→Pos→Bool):Bool:=if h:e.ctorIdx=23 then Expr.Name.elim (motive_1:=fun _=>Bool) e h k else false
theorem Bn {e:Expr} {k:Str→Pos→Bool} (h:C7 e k=true):∃ a b,e=.Name a b∧k a b=true :=
 (dB h).elim fun q h=>Expr.Name.elim (motive_1:=fun e=>∀ q:e.ctorIdx=23,Expr.Name.elim (motive_1:=fun _=>Bool) e q k=true→∃ a b,e=.Name a b∧k a b=true) e q (fun a b _ h=>⟨a,b,rfl,h⟩) q h
noncomputable def SH (e:Expr) (k:List Expr→Pos→Bool):Bool:=if h:e.ctorIdx=24 then Expr.List.elim (motive_1:=fun _=>Bool) e h k else false
theorem SG {e:Expr} {k:List Expr→Pos→Bool} (h:SH e k=true):∃ a b,e=.List a b∧k a b=true :=
 (dB h).elim fun q h=>Expr.List.elim (motive_1:=fun e=>∀ q:e.ctorIdx=24,Expr.List.elim (motive_1:=fun _=>Bool) e q k=true→∃ a b,e=.List a b∧k a b=true) e q (fun a b _ h=>⟨a,b,rfl,h⟩) q h
noncomputable def EY (e:Expr) (k:List Expr→Nat→Pos→Bool):Bool:=if h:e.ctorIdx=25 then Expr.Tuple.elim (motive_1:=fun _=>Bool) e h k else false
theorem C6 {e:Expr} {k:List Expr→Nat→Pos→Bool} (h:EY e k=true):∃ a b c,e=.Tuple a b c∧k a b c=true :=
 (dB h).elim fun q h=>Expr.Tuple.elim (motive_1:=fun e=>∀ q:e.ctorIdx=25,Expr.Tuple.elim (motive_1:=fun _=>Bool) e q k=true→∃ a b c,e=.Tuple a b c∧k a b c=true) e q (fun a b c _ h=>⟨a,b,c,rfl,h⟩) q h
noncomputable def K2 (e:Expr) (k:Option Expr→Option Expr→Option Expr→Pos→Bool):Bool:=if h:e.ctorIdx=26 then Expr.Slice.elim (motive_1:=fun _=>Bool) e h k else false
theorem K1 {e:Expr} {k:Option Expr→Option Expr→Option Expr→Pos→Bool} (h:K2 e k=true):∃ a b c d,e=.Slice a b c d∧k a b c d=true :=
 (dB h).elim fun q h=>Expr.Slice.elim (motive_1:=fun e=>∀ q:e.ctorIdx=26,Expr.Slice.elim (motive_1:=fun _=>Bool) e q k=true→∃ a b c d,e=.Slice a b c d∧k a b c d=true) e q (fun a b c d _ h=>⟨a,b,c,d,rfl,h⟩) q h
noncomputable def Ev (Γ:List (Str×Nat)):List Nat→List Expr→Bool
 | [],r=>r.isEmpty
 | i::l,r=>match r with
  | []=>false
  | e::r=>C7 e (fun x _=>Γ.lookup x==some i)&&Ev Γ l r
noncomputable def UV (Γ:List (Str×Nat)):PT→Expr→Bool
 | .one i,e=>C7 e fun x _=>Γ.lookup x==some i
 | .many l,e=>EY e fun elts _ _=>Ev Γ l elts
inductive FlR (c:Cx) (h:Heap) (ρ:List Addr):Fl→Flow→Prop where
 | next:FlR c h ρ .next .next
 | ret {v u}:RV c h ρ v u→FlR c h ρ (.ret v) (.ret u)
section
variable {c:Cx} {A:Around} {ρ ρ':List Addr} {st:St} {s:Shared} {N:List (Str×NameKind)} {Γ:List (Str×Nat)} {env:Env} {h h':Heap} {σ:Lo}
theorem WA {fp:List Addr} (F:FR c N Γ env h ρ σ) (hs:∀ b∈fp,b∈A4 env) (hk:∀ b o,h.get? b=some o→b∉fp→h'.get? b=some o):Kept ρ h ρ h':=by
 have ho:Off h fp:=fun b hb=>F.off b (hs b hb)
 exact ⟨fun _ _ e=>e,fun b items ⟨o,h1,h2,m,h3⟩ n=>⟨⟨o,hk b o h1 (fun e=>(ho b e o h1).1 _ _ h3 h2),h2,m,h3⟩,n⟩,
  fun b _ _ _ _ _ r n=>⟨hk b _ r (fun e=>(ho b e _ r).2 _ rfl rfl),n⟩⟩
theorem Inv.fp {fp:List Addr} (I:Inv c ρ st h) (F:FR c N Γ env h ρ σ) (hs:∀ b∈fp,b∈A4 env) (hk:∀ b o,h.get? b=some o→b∉fp→h'.get? b=some o) (hz:h.objs.size≤h'.objs.size):Inv c ρ st h' :=
 I.kept (ρ':=ρ) (WA F hs hk) (fun b hb o e=>hk b o e fun q=>(F.out b (hs b q)).1 hb) (fun b o e=>hk b o (I.base b o e) fun q=>Nat.lt_irrefl _ (Nat.lt_of_lt_of_le (Heap.lt_size e) (F.out b (hs b q)).2)) hz
theorem Jz {l:List Nat}:∀ {elts:List Expr},Ev Γ l elts=true→∃ xs:List (Str×Pos),elts=xs.map (fun p=>Expr.Name p.1 p.2)∧xs.map (fun p=>Γ.lookup p.1)=l.map some:=by
 induction l with
 | nil=>intro elts h;exact ⟨[],List.isEmpty_iff.mp h,rfl⟩
 | cons i l ih =>
  intro elts h
  cases elts with
  | nil=>exact nB h
  | cons e r =>
   refine oEEA (Bn (AC h).1) fun x p z0 e1=>?_;subst z0
   refine oEA (ih (AC h).2) fun xs e f=>?_
   exact ⟨(x,p)::xs,congrArg (Expr.Name x p::·) e,congr (congrArg List.cons (eq_of_beq e1)) f⟩
theorem CB (xs:List (Str×Pos)):assignEach (xs.map fun p=>Expr.Name p.1 p.2) env=xs.map fun p=>(false,assign (Expr.Name p.1 p.2) env):=by
 induction xs with
 | nil=>rfl
 | cons p xs ih=>exact congrArg (_::·) ih
theorem MW {fp:List Addr} {s₀:Shared} {P:Unit→Shared→Prop} {E:Value→Shared→Prop}:∀ (l:List Nat) (xs:List (Str×Pos)) (vs:List PV) (us:List Value) (σ:Lo) (s:Shared),(∀ p∈xs,Uw env fp p.1)→FR c N Γ env s.heap ρ σ→xs.map (fun p=>Γ.lookup p.1)=l.map some→l.length=vs.length →
  AQ c s.heap ρ vs us→(s₀.gens=s.gens∧s₀.drawn=s.drawn∧s₀.os=s.os)→(∀ b o,s₀.heap.get? b=some o→b∉fp→s.heap.get? b=some o) →
  (∀ h' tk,(∀ b o,s₀.heap.get? b=some o→b∉fp→h'.get? b=some o)→FR c N Γ env h' ρ ((l.zip vs).foldl (fun σ p=>σ.set p.1 (some p.2)) σ)→P () { s₀ with heap:=h',toks:=tk }) →
  wpAny c.m A (assignInOrder (xs.map fun p=>assign (Expr.Name p.1 p.2) env) us) P E s:=by
 intro l
 induction l with
 | nil =>
  intro xs vs us σ s hsto F e hl r hs hk q
  cases xs with
  | cons _ _=>exact nC e
  | nil =>
   cases vs with
   | cons _ _=>exact nomatch hl
   | nil =>
    rw [r.unnil]
    refine wpAny_pure ?_
    have:=q s.heap s.toks hk F
    rw [hs.1,hs.2.1,hs.2.2] at this
    exact this
 | cons i l ih =>
  intro xs vs us σ s hsto F e hl r hs hk q
  cases xs with
  | nil=>exact nD e
  | cons p xs =>
   cases vs with
   | nil=>exact nomatch hl
   | cons v vs =>
    refine oEEAA (r.uncons) fun u us z0 a b=>?_;subst z0
    refine oA (List.cons.inj e) fun e1 e2=>?_
    refine wpAny_bind (wpAny_holding (wpAny_assign_Name (F.store e1 (hsto p (.head _)) a fun h' tk hk' hz kk F'=>?_)))
    exact ih xs vs us _ { s with heap:=h',toks:=tk } (fun p hp=>hsto p (.tail _ hp)) F' e2 (Nat.succ.inj hl) (AQ.keep kk _ _ b) hs (fun b o e1 hb=>hk' b o (hk b o e1 hb) hb) q
inductive Tg (y:Str):Expr→Prop
 | one {p}:Tg y (.Name y p)
 | many {p q k xs} (h:Expr.Name y p∈xs):Tg y (.Tuple xs k q)
theorem Dg {fp:List Addr} {t:PT} {target:Expr} {v:PV} {u:Value} {σ':Lo} {n:Nat} {P:Unit→Shared→Prop} {E:Value→Shared→Prop} (hA:Ok A n) (I:Inv c ρ st s.heap) (F:FR c N Γ env s.heap ρ σ) (hc:UV Γ t target=true) (hs:∀ b∈fp,b∈A4 env) (hsto:∀ x,Tg x target→Uw env fp x) (hu:RV c s.heap ρ v u)
  (hb:Ff σ t v σ')
  (q:∀ s',Step fp ρ s ρ s'→Inv c ρ st s'.heap→FR c N Γ env s'.heap ρ σ'→P () s'):wpAny c.m A (assign target env u) P E s:=by
 have fin:∀ h' tk,(∀ b o,s.heap.get? b=some o→b∉fp→h'.get? b=some o)→FR c N Γ env h' ρ σ'→s.heap.objs.size≤h'.objs.size→P () { s with heap:=h',toks:=tk } :=
  fun h' tk hk F' hz=>q _ ⟨List.prefix_refl _,fun _ hb=>.inl hb,fun b o e _ nf=>hk b o e nf,hz,rfl,rfl,rfl⟩ (I.fp F hs hk hz) F'
 refine AY ?_
 cases hb with
 | one i =>
  refine oEEA (Bn hc) fun x pos z0 e=>?_;subst z0
  exact wpAny_assign_Name (F.store (eq_of_beq e) (hsto x .one) hu fun h' tk hk hz kk F' hz'=>fin h' tk hk F' hz')
 | @many l vs hl =>
  refine oEEEA (C6 hc) fun elts k pos z0 hc=>?_;subst z0
  refine oEA (Jz hc) fun xs z0 hx=>?_;subst z0
  refine oEEAAA (IU hu) fun a us z0 t na rs=>?_;subst z0
  have n2:us.length=xs.length:=rs.length.trans (hl.symm.trans (by have:=congrArg List.length hx;rw [List.length_map,List.length_map] at this;exact this.symm))
  refine wpAny_assign_Tuple hA.hd t (by rw [CB,List.length_map];exact n2.symm) (by rw [CB];simp) fun h' he=>?_
  rw [CB,List.map_map]
  have hk:∀ b o,s.heap.get? b=some o→h'.get? b=some o:=fun b o e=>he b o (Nat.ne_of_lt (Heap.lt_size e)) e
  exact MW (s₀:=s) l xs vs us σ { s with heap:=h' } (fun p hp=>hsto p.1 (.many (List.mem_map_of_mem (f:=fun p:Str×Pos=>Expr.Name p.1 p.2) hp))) (F.keep (Kept.all hk) (fun b _ o e=>hk b o e) fun b hb=>(F.out b hb).1) hx hl (AQ.keep (Kept.all hk) _ _ rs) ⟨rfl,rfl,rfl⟩ (fun b o e _=>hk b o e)
   fun h'' tk hk2 F2 hz=>fin h'' tk hk2 F2 hz
end
end Mine
end
section
namespace Mine
open PySem PySem.W PyProof.Rows PySem.Spec
open scoped Classical
structure XK (K:Frag) (C:Addr):Prop where
 get:plainGet K C ""=true
 dict:hasDictIn K C=true
 over:plainOver K C=true
 set:findIn K (.ref C) "__setattr__"=some (some (.builtin "object.__setattr__"))
structure GB (c:Cx) (x:Tx):Prop where
 KB:c.K.In c.B
 an0:c.an[0]?=some (sO "append")
 an1:c.an[1]?=some (sO "get")
 anN:c.an.Nodup
 cls:∀ k C,c.clsV k=some C→XK c.K C∧keepIn c.K (.ref C)=true
 atr:∀ k a C n,x.ats k a=true→c.clsV k=some C→c.an[a]?=some n→(∃ attr,findIn c.K (.ref C) n=some attr∧noGet c.K attr=true)∧takerIn c.K C n=some none
 mth:∀ k m i C n,x.mt k m=some i→c.clsV k=some C→c.an[m]?=some n→∃ f,c.fnV i=some f∧findIn c.K (.ref C) n=some (some (.ref f))∧typeIn c.K (.ref f)=some (.type "function")
 fnk:∀ i f,c.fnV i=some f→keepIn c.K (.ref f)=true
theorem Inv.KI {c:Cx} {x:Tx} {ρ:List Addr} {st:St} {h:Heap} (I:Inv c ρ st h) (O:GB c x):c.K.In h:=O.KB.keeps I.base
section
variable {c:Cx} {x:Tx} {A:Around} {ρ:List Addr} {st:St} {s:Shared} {Q:PV→St→Prop}
theorem Ou {i k d:Nat} {a:Addr} {l:List (Nat×PV)} (I:Inv c ρ st s.heap) (ha:ρ[i]?=some a) (h1:st[i]?=some (.inst k d)) (h2:st[d]?=some (.attrs l)) :
  ∃ C dx es n,c.clsV k=some C∧ρ[d]?=some dx∧s.heap.get? dx=some (dictOf es n)∧DG c s.heap ρ l es∧s.heap.get? a=some (instObj C dx)∧InstAt s.heap a (instObj C dx) C (some (dictOf es n)):=by
 refine oEEAA (I.objs i a _ ha h1) fun C dx hC ho hd=>?_
 refine oEEA (I.objs d dx _ hd h2) fun es n hx hr=>?_
 exact ⟨C,dx,es,n,hC,hd,hx,hr,ho,⟨ho,rfl,rfl,hx⟩⟩
theorem Uh {h:Heap} {l:List (Nat×PV)}:∀ {es:List DictEntry},DG c h ρ l es→∀ e∈es,e.refKey=false:=by
 induction l with
 | nil=>intro es p e he;cases p;exact nL he
 | cons _ l ih =>
  intro es p e he
  refine oEEEEAAAA p fun e' r n t z0 h2 h3 h4 h5=>?_;subst z0
  rcases mC he with rfl | he
  ·rw [DictEntry.refKey,h3]
  ·exact ih h5 e he
theorem key_is {a b:Nat} {n n':Str} {t:Tok} (hN:c.an.Nodup) (hn:c.an[a]?=some n) (h2:c.an[b]?=some n'):(Value.str n' t).isStr n=decide (b=a):=by
 by_cases e:b=a
 ·subst e
  obtain rfl:=Option.some.inj (hn.symm.trans h2)
  rw [decide_eq_true rfl];exact beq_self_eq_true n
 ·rw [decide_eq_false e]
  exact beq_eq_false_iff_ne.mpr fun e'=>e (by
   subst e'
   exact (List.getElem?_inj (gI h2).1 hN).mp (h2.trans hn.symm))
theorem Kp {h:Heap} (hN:c.an.Nodup) {a:Nat} {n:Str} (hn:c.an[a]?=some n) {l:List (Nat×PV)}:∀ {es:List DictEntry},DG c h ρ l es →
  (∀ v,KY l a=some v→∃ u,getL n es=some (some u)∧RV c h ρ v u)∧(KY l a=none→getL n es=some none):=by
 induction l with
 | nil=>intro es p;cases p;exact ⟨fun v e=>(nO e),fun _=>rfl⟩
 | cons p l ih =>
  intro es q
  refine oEEEEAAAA q fun e r n' t z0 h2 h3 h4 h5=>?_;subst z0
  have ih:=ih h5
  have hk:e.key.isStr n=decide (p.1=a):=by rw [h3];exact key_is hN hn h2
  unfold getL KY at *
  rw [List.find?_cons,List.find?_cons,hk]
  by_cases hpa:p.1=a
  ·rw [decide_eq_true hpa,beq_of_eq hpa]
   exact ⟨fun v e=>⟨_,rfl,Option.some.inj e▸h4⟩,fun e=>(nS e)⟩
  ·rw [decide_eq_false hpa,beq_eq_false_iff_ne.mpr hpa,List.any_cons,show e.refKey=false by rw [DictEntry.refKey,h3]]
   exact ih
theorem OL {a:Nat} {u:Value} {o:PV} {nm:Str} {expr:Bool} {P:Value→Shared→Prop} {E:Value→Shared→Prop} (O:GB c x) (I:Inv c ρ st s.heap) (hu:RV c s.heap ρ o u) (h:Jl x a st Q o)
  (hn:c.an[a]?=some nm) (q:∀ v y t,Q v st→RV c s.heap ρ v y→P y { s with toks:=t }):wpAny c.m A (getAttr u nm expr) P E s:=by
 cases h with
 | @mk i k d l v h1 h2 hv Ov hq =>
 refine oEA hu fun ad z0 ha=>?_;subst z0
 refine oEEEEAAAAA (Ou I ha h1 h2) fun C dx es n hC hd hx hr ho IA=>?_
 refine oEA ((Kp O.anN hn hr).1 v hv) fun y hg ry=>?_
 refine oA (O.atr k a C nm Ov hC hn) fun z0 _=>?_;obtain ⟨attr,hf,hng⟩:=z0
 refine get_value (I.KI O) IA (plainGet_of (O.cls k C hC).1.get).1 (findObj_own (O.cls k C hC).1.dict hf hng (by rw [lookIn_dict];exact hg)) ?_ (q v y _ hq ry)
 cases v with
 | bi b=>cases ry;cases b<;>first | rfl | decide +kernel
 | none=>cases ry;rfl
 | bool b=>cases ry;rfl
 | int b=>obtain ⟨_,rfl⟩:=ry;rfl
 | str b=>obtain ⟨_,rfl⟩:=ry;rfl
 | tup b=>refine oEEA ry fun _ _ z0 _=>?_;subst z0;rfl
 | rng b=>refine oEEEEA ry fun _ _ _ _ z0 _=>?_;subst z0;rfl
 | obj b=>refine oEA ry fun _ z0 _=>?_;subst z0;rfl
 | fn b=>refine oEA ry fun _ _ z0=>?_;subst z0;rfl
 | cls b=>refine oEA ry fun _ _ z0=>?_;subst z0;rfl
 | fd b=>refine oEEA ry fun _ _ z0 _=>?_;subst z0;rfl
 | fl b=>refine oEEA ry fun _ _ z0 _=>?_;subst z0;rfl
end
end Mine
end
section
namespace Mine
open PySem PySem.W PyProof.Rows PySem.Spec
open scoped Classical
section
variable {c:Cx} {x:Tx} {A:Around} {ρ:List Addr} {st:St} {s:Shared} {Q:PV→St→Prop}
theorem Vz {K:Frag} {C a dx:Addr} {es:List DictEntry} {n:Nat} {name:Str} {tk:Tok} {v:Value} {R:Result→Shared→Prop} (X:K.In s.heap) (I:InstAt s.heap a (instObj C dx) C (some (dictOf es n)))
  (hp:plainOver K C=true) (ht:takerIn K C name=some none) (hh:hasDictIn K C=true) (hk:∀ e∈es,e.refKey=false) (hz:es.length≤1000)
  (h:∀ h',Heap.SameBut dx s.heap h'→h'.get? dx=some (dictOf (putL name (PyData.keyHash c.w.params name) (.str name s.toks) v es) (putN name es n))→R (.ok (.ret .none)) { s with heap:=h',toks:=s.toks+1 }) :
  codeAny (model c.prog c.w) A (.call (.builtin "object.__setattr__") ⟨[.ref a,.str name tk,v],[]⟩) R s:=by
 refine osa_open X I hp ht fun b=>?_
 refine oEA (any_some hh) fun cd hc hd'=>?_
 have D:s.heap.get? dx=some (dictOf es n):=I.dict
 have hx:s.heap.get? a=some (instObj C dx):=I.at_
 have e1:=putName_dict name (PyData.keyHash c.w.params name) (.str name s.toks) v es n
 have D':(s.heap.update dx (Obj.putName name (PyData.keyHash c.w.params name) (.str name s.toks) v)).get? dx=some (dictOf (putL name (PyData.keyHash c.w.params name) (.str name s.toks) v es) (putN name es n)):=by
  rw [←e1];exact Heap.get?_update_self _ D (by rw [e1];rfl)
 refine wpAny_bind (wpAny_pure (wpAny_bind (wpAny_bind (wpAny_loadPart hx (wpAny_bind ((looks_clsIn X hc).here ?_))))))
 rw [hd']
 refine wpAny_pure (a:=some dx) (wpAny_bind (wpAny_pure (wpAny_bind ?_)))
 unfold nsSet
 refine wpAny_bind (wpAny_bind (wpAny_askSetting (wpAny_pure (wpAny_bind (wpAny_mkText (wpAny_bind (wpAny_loadPart D ?_)))))))
 dsimp only
 have cc:(!(es.toArray).any (·.key.isStr name)&&(es.toArray).any (·.refKey))=false:=by
  have:(es.toArray).any (·.refKey)=false:=by
   rw [List.any_toArray,List.any_eq_false]
   intro e he
   rw [hk e he];simp
  rw [this,Bool.and_false]
 rw [aRefKeyMayBeTheName_at,cc]
 refine wpAny_updatePart D ?_
 refine wpAny_bind (wpAny_lookBehind D' (pastItsLine_dict (by
  rw [List.size_toArray,sizeLine_eq]
  have:(putL name (PyData.keyHash c.w.params name) (.str name s.toks) v es).length≤es.length+1:=by
   clear D D' e1 cc I hk h hx hz
   induction es with
   | nil=>simp [putL]
   | cons e r ih=>simp only [putL];split<;>simp<;>omega
  omega)) ?_)
 exact wpAny_pure (h _ (Heap.SameBut.update ..) D')
theorem Ug {h:Heap} (hN:c.an.Nodup) {a:Nat} {nm:Str} (hn:c.an[a]?=some nm) {hsh:Int} {t:Tok} {v:PV} {u:Value} (hu:RV c h ρ v u) {l:List (Nat×PV)}:∀ {es:List DictEntry},DG c h ρ l es →
  DG c h ρ (LI l a v) (putL nm hsh (.str nm t) u es):=by
 induction l with
 | nil=>intro es p;cases p;exact ⟨_,[],nm,t,rfl,hn,rfl,hu,rfl⟩
 | cons p l ih =>
  intro es q
  refine oEEEEAAAA q fun e r n' t' z0 h2 h3 h4 h5=>?_;subst z0
  have hk:e.key.isStr nm=decide (p.1=a):=by rw [h3];exact key_is hN hn h2
  unfold putL LI
  rw [hk]
  by_cases hpa:p.1=a
  ·rw [if_pos hpa,if_pos (decide_eq_true hpa)]
   exact ⟨_,r,n',t',rfl,h2,h3,hu,h5⟩
  ·rw [if_neg hpa,if_neg (fun q=>hpa (of_decide_eq_true q))]
   exact ⟨_,_,n',t',rfl,h2,h3,h4,ih h5⟩
theorem DG.length {h:Heap} {l:List (Nat×PV)}:∀ {es:List DictEntry},DG c h ρ l es→es.length=l.length:=by
 induction l with
 | nil=>intro es p;cases p;rfl
 | cons p l ih=>intro es q;refine oEEEEAAAA q fun _ r _ _ z0 _ _ _ h5=>?_;subst z0;exact congrArg (·+1) (ih h5)
theorem Mb {a:Nat} {u w:Value} {v o:PV} {nm:Str} {K:St→Prop} {P:Unit→Shared→Prop} {E:Value→Shared→Prop} (O:GB c x) (I:Inv c ρ st s.heap) (hu:RV c s.heap ρ o u) (hw:RV c s.heap ρ v w) (h:WW x a v st K o)
  (hn:c.an[a]?=some nm) (q:∀ s' st',Step [] ρ s ρ s'→Inv c ρ st' s'.heap→K st'→P () s'):wpAny c.m A (setAttr u nm w) P E s:=by
 cases h with
 | @mk j k d l h1 h2 Ov hz hq =>
 refine oEA hu fun ad z0 ha=>?_;subst z0
 refine oEEEEAAAAA (Ou I ha h1 h2) fun C dx es n hC hd hx hr ho IA=>?_
 refine oA (O.atr k a C nm Ov hC hn) fun _ ht=>?_
 have O':=(O.cls k C hC).1
 refine set_plain (I.KI O) IA O'.set (Vz (s:={ s with toks:=s.toks+1 }) (c:=c) (I.KI O) IA O'.over ht O'.dict (Uh hr) (by rw [hr.length];exact Nat.le_trans hz (by decide)) fun h' sb hg=>?_)
 have hm:=List.mem_of_getElem? hd
 have kk:=Kept.upd hm sb
 exact q _ _ (Step.upd hm sb) (I.upd (po:=.attrs (LI l a v)) hd sb kk (Nat.le_of_eq sb.1.symm) ⟨_,_,hg,Ug O.anN hn (RV.keep kk _ _ hw) (DG.keep kk _ _ hr)⟩) hq
theorem WS {β κ:Type} [DecidableEq κ] (f:β→κ) (k:κ) (xs:List β):(xs.any fun p=>decide (f p=k))=decide (k∈xs.map f):=by
 induction xs with
 | nil=>rfl
 | cons p xs ih =>
  rw [List.any_cons,ih,←Bool.decide_or]
  exact decide_eq_decide.mpr ((or_congr_left eq_comm).trans List.mem_cons.symm)
theorem any_put {l:List (PV×PV)} {kvs:List (Int×Value)} {i:Int} (e:l.map (·.1)=kvs.map (fun p=>PV.int p.1)):(look l (.int i)).isSome=kvs.any fun kv=>kv.1=i:=by
 rw [WS (fun p:Int×Value=>p.1),T1 e];exact CK _ _ _ _
theorem Ur {l:List (PV×PV)} {xs:List (PV×Addr×Value)} {k:PV} (e:l.map (·.1)=xs.map (·.1)):(look l k).isSome=(atKey xs k).isSome:=by
 rw [look,atKey,CK,CK,e]
theorem LP {β γ:Type} {f:β→γ} {up:β→β} (h:∀ y,f (up y)=f y) (xs:List β):(xs.map up).map f=xs.map f:=by
 rw [List.map_map];exact List.map_congr_left fun y _=>h y
theorem Mm {β κ:Type} [DecidableEq κ] {h:Heap} {f:β→κ} {g:β→Value} {t:κ→PV} (ht:∀ a b,t a=t b→a=b) {k:κ} {v:PV} {u:Value} (hu:RV c h ρ v u) {up:β→β} (h1:∀ y,f y=k→g (up y)=u) (h2:∀ y,f y≠k→g (up y)=g y) :
  ∀ {l:List (PV×PV)} {xs:List β},l.map (·.1)=xs.map (fun p=>t (f p))→AQ c h ρ (l.map (·.2)) (xs.map g)→AQ c h ρ ((l.map fun p=>if p.1=t k then (p.1,v) else p).map (·.2)) ((xs.map up).map g):=by
 intro l
 induction l with
 | nil=>intro xs e _;cases xs with
  | nil=>exact AQ.nil
  | cons _ _=>exact nD e
 | cons p l ih =>
  intro xs e q
  cases xs with
  | nil=>exact nC e
  | cons y ys =>
   refine oEEAA (AQ.uncons q) fun v' r' e' a b=>?_
   refine oA (List.cons.inj e') fun z0 z1=>?_;subst z0;subst z1
   have e1:p.1=t (f y):=(List.cons.inj e).1
   rw [List.map_cons,List.map_cons,List.map_cons,List.map_cons]
   refine AQ.cons ?_ (ih (List.cons.inj e).2 b)
   by_cases hk:f y=k
   ·rw [h1 y hk,if_pos (e1.trans (congrArg t hk))];exact hu
   ·rw [h2 y hk,if_neg fun q=>hk (ht _ _ (e1.symm.trans q))];exact a
theorem Mn {l:List (PV×PV)} {k v:PV}:(l.map fun p=>if p.1=k then (p.1,v) else p).map (·.1)=l.map (·.1) :=
 LP (fun y=>by split<;>rfl) l
theorem KM {h:Heap} {l:List (PV×PV)} {i:Int} {v:PV} {u:Value} {kvs:List (Int×Value)} (e:l.map (·.1)=kvs.map (fun p=>PV.int p.1)) (r:AQ c h ρ (l.map (·.2)) (kvs.map (·.2))) (hu:RV c h ρ v u) :
  (put l (.int i) v).map (·.1)=(stored kvs i u).map (fun p=>PV.int p.1)∧AQ c h ρ ((put l (.int i) v).map (·.2)) ((stored kvs i u).map (·.2)):=by
 unfold put stored
 rw [any_put e]
 by_cases q:(kvs.any fun kv=>kv.1=i)=true
 ·rw [if_pos q,if_pos q,Mn,LP (f:=fun p:Int×Value=>PV.int p.1) (fun y=>by split<;>rfl),e]
  exact ⟨rfl,Mm (f:=fun p:Int×Value=>p.1) (t:=PV.int) (fun _ _=>PV.int.inj) hu (fun y h=>by rw [if_pos h]) (fun y h=>by rw [if_neg h]) e r⟩
 ·rw [if_neg q,if_neg q,List.map_append,List.map_append,List.map_append,List.map_append,e]
  exact ⟨rfl,r.append (AQ.cons hu AQ.nil)⟩
theorem T2 {h:Heap} {a:Addr} {l:List (PV×PV)} {i:Int} {v:PV} {u:Value} {kvs:List (Int×Value)} (e:l.map (·.1)=kvs.map (fun p=>PV.int p.1)) (r:AQ c h ρ (l.map (·.2)) (kvs.map (·.2))) (hu:RV c h ρ v u)
  (hd:h.DictOf (intKind c.prog c.w) a (stored kvs i u)):Uy c h ρ a (put l (.int i) v) :=
 ⟨_,hd,KM e r hu⟩
theorem SP {h:Heap} {a b:Addr} {l:List (PV×PV)} {k v:PV} {u:Value} {xs:List (PV×Addr×Value)} (e:l.map (·.1)=xs.map (·.1)) (r:AQ c h ρ (l.map (·.2)) (xs.map (·.2.2)))
  (rk:AQ c h ρ (xs.map (·.1)) (xs.map fun x=>Value.ref x.2.1)) (hu:RV c h ρ v u) (hb:RV c h ρ k (.ref b))
  (hd:h.DictOfH (Ii c.prog c.w) a (storedH xs k b u)):Ut c h ρ a (put l k v):=by
 have k1:∀ y:PV×Addr×Value,(putAt k u y).1=y.1:=fun y=>by unfold putAt;split<;>rfl
 have k2:∀ y:PV×Addr×Value,(putAt k u y).2.1=y.2.1:=fun y=>by unfold putAt;split<;>rfl
 refine ⟨_,hd,?_⟩
 unfold put storedH
 rw [Ur e]
 by_cases q:(atKey xs k).isSome=true
 ·rw [if_pos q,if_pos q,Mn,LP k1,LP (f:=fun x:PV×Addr×Value=>Value.ref x.2.1) fun y=>congrArg Value.ref (k2 y)]
  exact ⟨e,Mm (f:=fun p:PV×Addr×Value=>p.1) (t:=id) (fun _ _=>id) hu (fun y h=>by rw [putAt,if_pos h]) (fun y h=>by rw [putAt,if_neg h]) e r,rk⟩
 ·rw [if_neg q,if_neg q,List.map_append,List.map_append,List.map_append,List.map_append,List.map_append,e]
  exact ⟨rfl,r.append (AQ.cons hu AQ.nil),rk.append (AQ.cons hb AQ.nil)⟩
end
end Mine
end
section
namespace Mine
open PySem PySem.W PyProof.Rows PySem.Spec
open scoped Classical
section
variable {c:Cx} {x:Tx} {A:Around} {ρ:List Addr} {st:St} {s:Shared} {Q:PV→St→Prop}
theorem NG {β:Type} {f:β→PV} {l:List (PV×PV)} {xs:List β} (e:l.map (·.1)=xs.map f):xs.length=l.length:=by
 have:=congrArg List.length e;rw [List.length_map,List.length_map] at this;exact this.symm
theorem MZ {n:Nat} {k v o:PV} {u i w:Value} {R:St→Prop} {P:Unit→Shared→Prop} {E:Value→Shared→Prop} (hA:Ok A n) (I:Inv c ρ st s.heap) (hu:RV c s.heap ρ o u) (hk:RV c s.heap ρ k i) (hw:RV c s.heap ρ v w)
  (h:Ji st R v o k) (q:∀ s' st',Step [] ρ s ρ s'→Inv c ρ st' s'.heap→R st'→P () s'):wpAny c.m A (setItem u i w) P E s:=by
 cases h with
 | @list j l m hj h0 hlt hl hq =>
  refine oEAAEA (I.obj hu hj) fun a z0 ha vs z1 r=>?_;subst z0;obtain ⟨e,ho⟩:=z1
  obtain ⟨t,rfl⟩:=hk
  have n1:=r.length
  have hm:=List.mem_of_getElem? ha
  refine ki_setAt (n:=e) (items:=vs.toArray) ho h0 (by omega) (by rw [List.size_toArray,n1];exact hlt) ?_
  have sb:Heap.SameBut a s.heap (s.heap.update a (Obj.mapSeq (·.setIfInBounds m.toNat w))):=Heap.SameBut.update ..
  have kk:=Kept.upd hm sb
  have hg:=get?_update_seq ho (fun x=>x.setIfInBounds m.toNat w)
  refine q _ _ (Step.upd (t:=s.toks) hm sb) (I.upd (po:=.list (l.set m.toNat v)) ha sb kk (Nat.le_of_eq sb.1.symm) ⟨vs.set m.toNat w,⟨e,?_⟩,AQ.set (RV.keep kk _ _ hw) _ (AQ.keep kk _ _ r)⟩) hq
  rw [hg];simp
 | @dict j l k hj hkd hl hq =>
  refine oEAA (I.obj hu hj) fun a z0 ha ho=>?_;subst z0
  have hm:=List.mem_of_getElem? ha
  refine Or.elim hkd (fun z2=>oA z2 fun k1 k2=>?_) fun z3=>RG z3 fun k1 k2 k3=>?_
  ·cases k with
   | int m =>
    refine oEAA (Ds ho k2) fun kvs hd e r=>?_
    obtain ⟨t,rfl⟩:=hk
    refine wpAny_setItem_pairs (knd:=intKind c.prog c.w) (k:=m) (by simp [intKind,Value.isInt]) hd (fun h' hd' sb=>?_) (by rw [NG e];exact FJ hl)
    have kk:=Kept.upd hm sb
    exact q _ _ (Step.upd hm sb) (I.upd (po:=.dict (put l (.int m) v)) ha sb kk (Nat.le_of_eq sb.1.symm) (.inl (T2 e (AQ.keep kk _ _ r) (RV.keep kk _ _ hw) hd'))) hq
   | _=>exact nB k1
  ·cases k with
   | tup ks =>
    refine oEAAA (K3 ho k3) fun xs hd e r rk=>?_
    have p1:=RV.plain _ _ _ k2 hk
    refine oE (p1.tup_) fun b z0=>?_;subst z0
    refine wpAny_setItem_heap (knd:=Ii c.prog c.w) (k:=.tup ks) hA.u6 ⟨⟨_,rfl⟩,p1⟩ hd (fun h' hd' sb=>?_) (by rw [NG e];exact FJ hl)
    have kk:=Kept.upd hm sb
    exact q _ _ (Step.upd hm sb) (I.upd (po:=.dict (put l (.tup ks) v)) ha sb kk (Nat.le_of_eq sb.1.symm) (.inr (SP e (AQ.keep kk _ _ r) (AQ.keep kk _ _ rk) (RV.keep kk _ _ hw) (RV.keep kk _ _ hk) hd'))) hq
   | _=>exact nB k1
theorem HT {l:List (PV×PV)} {kvs:List (Int×Value)} {h:Heap} {i:Int} (e:l.map (·.1)=kvs.map (fun p=>PV.int p.1)) (q:AQ c h ρ (l.map (·.2)) (kvs.map (·.2))) {d:PV} {u:Value} (hd:RV c h ρ d u) :
  RV c h ρ ((look l (.int i)).getD d) ((valueAt kvs i).getD u):=by
 cases hl:look l (.int i) with
 | none=>rw [Gf e q hl];exact hd
 | some r=>refine oEA (Ge e q hl) fun v h1 h2=>?_;rw [h1];exact h2
theorem Ka {i:Int} {l:List (PV×PV)} (h:keyed (.int i) l):∀ p∈l,p.1.isInt=true:=h.elim (·.2) fun h=>nB h.1
theorem KD {j m n:Nat} {xs:List PV} {u:Value} {us:List Value} {id:String} (hA:Ok A n) (I:Inv c ρ st s.heap) (hu:RV c s.heap ρ (.obj j) u) (rs:AQ c s.heap ρ xs us) (h:Rq st Q j m xs) (hid:m=0∧id="list.append"∨m=1∧id="dict.get") :
  wpAny c.m A (call (.builtin id) (u::us)) (Res c ρ s Q) CG s:=by
 cases h with
 | @app l v hj hl q =>
  refine oEA (rs.one) fun w z0 hw=>?_;subst z0
  refine oEAAEA (I.obj hu hj) fun a z0 ha vs L1 r=>?_;subst z0
  have hm:=List.mem_of_getElem? ha
  rcases hid with ⟨_,rfl⟩ | ⟨e,_⟩
  ·refine wpAny_list_append_plain L1 (fun h' L2 sb=>?_) (by have:=r.length;simp only [List.size_toArray,sizeLine];omega)
   have kk:=Kept.upd hm sb
   exact ⟨ρ,_,.none,q,Step.upd (t:=s.toks) hm sb,I.upd (po:=.list (l++[v])) ha sb kk (Nat.le_of_eq sb.1.symm) ⟨vs++[w],by simpa using L2,(AQ.keep kk _ _ r).append (AQ.cons (RV.keep kk _ _ hw) AQ.nil)⟩,GH⟩
  ·exact nomatch e
 | @get1 l i hj hk q =>
  refine oEAE (rs.one) fun w z0 t z1=>?_;subst z0;subst z1
  refine oEAA (I.obj hu hj) fun a z0 ha ho=>?_;subst z0
  rcases hid with ⟨e,_⟩ | ⟨_,rfl⟩
  ·exact nomatch e
  ·refine oEAA (Ds ho (Ka hk)) fun kvs hd e r=>?_
   exact call_meetsIn F.slot_dict_get hd.mapOf.typeIs F.entry_dict_get (F.args_dict_get_2 _ _) (meets_dict_get (intKind c.prog c.w) a (k:=i) (by simp [intKind,Value.isInt]) (I.notSys ha)) ⟨_,hd.mapOf,Cd I (HT e r GH) q⟩
 | @get2 l d i hj hk q =>
  refine oEEAA (rs.two) fun w w2 z0 z1 hw2=>?_;subst z0;obtain ⟨t,rfl⟩:=z1
  refine oEAA (I.obj hu hj) fun a z0 ha ho=>?_;subst z0
  rcases hid with ⟨e,_⟩ | ⟨_,rfl⟩
  ·exact nomatch e
  ·refine oEAA (Ds ho (Ka hk)) fun kvs hd e r=>?_
   exact call_meetsIn F.slot_dict_get hd.mapOf.typeIs F.entry_dict_get (F.args_dict_get_3 _ _ _) (meets_dict_get_default (intKind c.prog c.w) a (k:=i) (by simp [intKind,Value.isInt]) (I.notSys ha) w2) ⟨_,hd.mapOf,Cd I (HT e r hw2) q⟩
end
end Mine
end
section
namespace Mine
open PySem PySem.W PyProof.Rows PySem.Spec
open scoped Classical
structure GA where
 gn:List Str
 an:List Str
noncomputable def DC (e:Expr):Bool:=e.ctorIdx==16
noncomputable def FH (e:Expr):Bool:=e.ctorIdx==22
noncomputable def HE (e:Expr):Bool:=e.ctorIdx==7
theorem DJ {a:Bool} (h:(!a)=true):a=false:=by cases a<;>first | rfl | exact nB h
noncomputable def Jo {α:Type} (l:List α) (k:α→Bool):Bool:=match l with
 | []=>false
 | a::r=>r.isEmpty&&k a
theorem EG {α:Type} {l:List α} {k:α→Bool} (h:Jo l k=true):∃ a,l=[a]∧k a=true:=by
 cases l with
 | nil=>exact nB h
 | cons a r=>exact ⟨a,congrArg (a::·) (List.isEmpty_iff.mp (AC h).1),(AC h).2⟩
noncomputable def DR {α:Type} (l:Option α) (k:α→Bool):Bool:=match l with
 | none=>false
 | some a=>k a
theorem B4 {α:Type} {l:Option α} {k:α→Bool} (h:DR l k=true):∃ a,l=some a∧k a=true:=by
 cases l with
 | none=>exact nB h
 | some a=>exact ⟨a,rfl,h⟩
noncomputable def Ot:UnaryOp→Bool
 | .USub=>true
 | _=>false
theorem QJ {o:UnaryOp} (h:Ot o=true):o=.USub:=by cases o<;>first | rfl | exact nB h
noncomputable def W1:UnaryOp→Bool
 | .Not=>true
 | _=>false
theorem Ty {o:UnaryOp} (h:W1 o=true):o=.Not:=by cases o<;>first | rfl | exact nB h
noncomputable def vInt (e:Expr) (k:Int→Bool):Bool:=Cb e fun c _ _=>match c with
 | .int j=>k j
 | _=>false
theorem Pn {e:Expr} {k:Int→Bool} (h:vInt e k=true):∃ j a b,e=.Constant (.int j) a b∧k j=true:=by
 refine oEEEA (Cf h) fun c a b z0 h2=>?_;subst z0
 clear h
 cases c with
 | int j=>exact ⟨j,a,b,rfl,h2⟩
 | _=>exact nB h2
noncomputable def vStr (e:Expr) (k:Str→Bool):Bool:=Cb e fun c _ _=>match c with
 | .str j=>k j
 | _=>false
theorem Yr {e:Expr} {k:Str→Bool} (h:vStr e k=true):∃ j a b,e=.Constant (.str j) a b∧k j=true:=by
 refine oEEEA (Cf h) fun c a b z0 h2=>?_;subst z0
 clear h
 cases c with
 | str j=>exact ⟨j,a,b,rfl,h2⟩
 | _=>exact nB h2
noncomputable def vBool (e:Expr) (k:Bool→Bool):Bool:=Cb e fun c _ _=>match c with
 | .bool j=>k j
 | _=>false
theorem Xd {e:Expr} {k:Bool→Bool} (h:vBool e k=true):∃ j a b,e=.Constant (.bool j) a b∧k j=true:=by
 refine oEEEA (Cf h) fun c a b z0 h2=>?_;subst z0
 clear h
 cases c with
 | bool j=>exact ⟨j,a,b,rfl,h2⟩
 | _=>exact nB h2
noncomputable def Wi (e:Expr):Bool:=Cb e fun c _ _=>match c with
 | .none=>true
 | _=>false
theorem XZ {e:Expr} (h:Wi e=true):∃ a b,e=.Constant .none a b:=by
 refine oEEEA (Cf h) fun c a b z0 h2=>?_;subst z0
 clear h
 cases c with
 | none=>exact ⟨a,b,rfl⟩
 | _=>exact nB h2
inductive Tn:PT→Expr→List (Str×Nat)→Prop
 | one {i x p}:Tn (.one i) (.Name x p) [(x,i)]
 | many {xs:List ((Str×Nat)×Pos)} {k q}:Tn (.many (xs.map fun y=>y.1.2)) (.Tuple (xs.map fun y=>.Name y.1.1 y.2) k q) (xs.map (·.1))
noncomputable def XY:List Nat→List Expr→(List (Str×Nat)→Bool)→Bool
 | [],r,k=>r.isEmpty&&k []
 | i::l,r,k=>match r with
  | []=>false
  | e::r=>C7 e fun x _=>XY l r fun tn=>k ((x,i)::tn)
noncomputable def vTn:PT→Expr→(List (Str×Nat)→Bool)→Bool
 | .one i,e,k=>C7 e fun x _=>k [(x,i)]
 | .many l,e,k=>EY e fun elts _ _=>XY l elts k
theorem Yq {l:List Nat}:∀ {r:List Expr} {k:List (Str×Nat)→Bool},XY l r k=true→∃ xs:List ((Str×Nat)×Pos),l=xs.map (fun y=>y.1.2)∧r=xs.map (fun y=>Expr.Name y.1.1 y.2)∧k (xs.map (·.1))=true:=by
 induction l with
 | nil=>intro r k h;exact ⟨[],rfl,List.isEmpty_iff.mp (AC h).1,(AC h).2⟩
 | cons i l ih =>
  intro r k h
  cases r with
  | nil=>exact nB h
  | cons e r =>
   refine oEEA (Bn h) fun x p z0 h2=>?_;subst z0
   refine oEAA (ih h2) fun xs z0 z1 h3=>?_;subst z0;subst z1
   exact ⟨((x,i),p)::xs,rfl,rfl,h3⟩
theorem Yp {t:PT} {e:Expr} {k:List (Str×Nat)→Bool} (h:vTn t e k=true):∃ tn,Tn t e tn∧k tn=true:=by
 cases t with
 | one i=>refine oEEA (Bn h) fun x p z0 h2=>?_;subst z0;exact ⟨_,.one,h2⟩
 | many l =>
  refine oEEEA (C6 h) fun elts a b z0 h2=>?_;subst z0
  refine oEAA (Yq h2) fun xs z0 z1 h3=>?_;subst z0;subst z1
  exact ⟨_,.many,h3⟩
noncomputable def Ay (N':List (Str×NameKind)) (Γ:List (Str×Nat)):List (Str×Nat) :=
 N'.filterMap fun p=>if p.2=.free then (Γ.lookup p.1).map (p.1,·) else none
noncomputable def dbg:Str:=sO "__debug__"
noncomputable def JZ (N:List (Str×NameKind)) (Γ:List (Str×Nat)) (scope:Scope) (tn:List (Str×Nat)):Bool :=
 decide (scope.kind=.function)&&scope.names.all (fun p=>p.2 != .cell)&&scope.names.all (fun p=>scope.names.lookup p.1==some p.2)
  && scope.names.all (fun p=>p.2 != .free||N.lookup p.1==some .cell||N.lookup p.1==some .free)
  && tn.all (fun p=>scope.names.lookup p.1==some .local&&(tn++Ay scope.names Γ).lookup p.1==some p.2)
  && decide (((tn++Ay scope.names Γ).map (·.2)).Nodup)
noncomputable def Gv (Z:GA) (N:List (Str×NameKind)):List (Nat×Int)→List (Option Expr)→List Expr→Bool
 | [],ks,vs=>ks.isEmpty&&vs.isEmpty
 | p::l,ks,vs=>match ks with
  | []=>false
  | o::ks=>match vs with
   | []=>false
   | v::vs=>DR o (fun e=>C7 e fun y _=>Z.gn[p.1]?==some y&&N.lookup y==some .globalImplicit)&&vInt v (p.2==·)&&Gv Z N l ks vs
noncomputable def LW:PE→Bool
 | .bool b=>b
 | _=>false
mutual
noncomputable def Aq (Z:GA):PE→List (Str×NameKind)→List (Str×Nat)→Expr→Bool
 | .loc i,_,Γ,e'=>C7 e' fun x _=>Γ.lookup x==some i&&x != dbg
 | .int i,_,_,e'=>vInt e' (i==·)||GD e' fun op u _=>Ot op&&vInt u (i==-·)
 | .str y,_,_,e'=>vStr e' (y==·)
 | .bool b,_,_,e'=>vBool e' (b==·)
 | .none,_,_,e'=>Wi e'
 | .gl g,N,_,e'=>C7 e' fun x _=>Z.gn[g]?==some x&&N.lookup x==some .globalImplicit&&x != dbg
 | .tup es,N,Γ,e'=>decide (es.length≤30)&&EY e' fun elts _ _=>Cy Z es N Γ elts
 | .list es,N,Γ,e'=>decide (es.length≤30)&&SH e' fun elts _=>Cy Z es N Γ elts
 | .dict es,N,_,e'=>decide (es.length≤10)&&SL e' fun ks vs _=>Gv Z N es ks vs
 | .attr e a,N,Γ,e'=>Cg e' fun v n _=>Z.an[a]?==some n&&!DC v&&Aq Z e N Γ v
 | .sub e i,N,Γ,e'=>Bd e' fun v sl _=>Aq Z e N Γ v&&Aq Z i N Γ sl
 | .slTo e h,N,Γ,e'=>Bd e' fun v sl _=>K2 sl fun a b d _=>a.isNone&&d.isNone&&DR b fun u=>Aq Z e N Γ v&&Aq Z h N Γ u
 | .slFrom e h,N,Γ,e'=>Bd e' fun v sl _=>K2 sl fun a b d _=>b.isNone&&d.isNone&&DR a fun u=>Aq Z e N Γ v&&Aq Z h N Γ u
 | .rev e,N,Γ,e'=>Bd e' fun v sl _=>K2 sl fun a b d _=>a.isNone&&b.isNone&&DR d fun u=>GD u fun op w _=>Ot op&&vInt w (1==·)&&Aq Z e N Γ v
 | .call f as,N,Γ,e'=>Pp e' fun f' as' ks _=>ks.isEmpty&&C7 f' (fun _ _=>true)&&Aq Z f N Γ f'&&Cy Z as N Γ as'
 | .meth o m as,N,Γ,e'=>Pp e' fun f' as' ks pos=>ks.isEmpty&&decide (as'.length≤20)&&Cg f' fun o' n apos=>Z.an[m]?==some n&&!DC o'&&apos.endLine==pos.line&&Aq Z o N Γ o'&&Cy Z as N Γ as'
 | .bin op a b,N,Γ,e'=>N9 e' fun a' op' b' _=>decide (op=op')&&Aq Z a N Γ a'&&Aq Z b N Γ b'
 | .cmp op a b,N,Γ,e'=>MO e' fun a' ops bs _=>Jo ops (fun op'=>decide (op=op'))&&Aq Z a N Γ a'&&Jo bs fun b'=>!HE b'&&Aq Z b N Γ b'
 | .bop op es,N,Γ,e'=>Pq e' fun op' es' _=>decide (op=op')&&Cy Z es N Γ es'
 | .not e,N,Γ,e'=>GD e' fun op u _=>W1 op&&Aq Z e N Γ u
 | .ite c a b,N,Γ,e'=>SI e' fun c' a' b' _=>Aq Z c N Γ c'&&Aq Z a N Γ a'&&Aq Z b N Γ b'
 | .comp elt t it cond,N,Γ,e'=>G4 e' fun elt' gs scope _=>Jo gs fun g=>decide (g.is_async=0)&&!HE g.iter&&Aq Z it N Γ g.iter&&vTn t g.target fun tn=>JZ N Γ scope tn &&
   Aq Z elt scope.names (tn++Ay scope.names Γ) elt'&&(match g.ifs with
    | []=>LW cond
    | q::r=>r.isEmpty&&Aq Z cond scope.names (tn++Ay scope.names Γ) q)
 | .stuck,_,_,_=>true
noncomputable def Cy (Z:GA):List PE→List (Str×NameKind)→List (Str×Nat)→List Expr→Bool
 | [],_,_,r=>r.isEmpty
 | e::es,N,Γ,r=>match r with
  | []=>false
  | e'::es'=>!FH e'&&Aq Z e N Γ e'&&Cy Z es N Γ es'
end
theorem OF {t:PT} {t':Expr} {tn:List (Str×Nat)} {Γ:List (Str×Nat)} (h:Tn t t' tn) (hl:∀ p∈tn,Γ.lookup p.1=some p.2):UV Γ t t'=true:=by
 cases h with
 | one=>exact beq_of_eq (hl _ (.head _))
 | @many xs =>
  show Ev Γ (xs.map _) (xs.map _)=true
  induction xs with
  | nil=>rfl
  | cons y xs ih=>exact Bool.and_eq_true_iff.mpr ⟨beq_of_eq (hl y.1 (.head _)),ih fun p hp=>hl p (.tail _ hp)⟩
theorem BF:∀ {Γ:List (Str×Nat)} {x y:Str} {i:Nat},(Γ.map (·.2)).Nodup→Γ.lookup x=some i→Γ.lookup y=some i→x=y:=by
 intro Γ x y i hN hx hy
 have h1:=lookup_mem hx
 have h2:=lookup_mem hy
 induction Γ with
 | nil=>cases h1
 | cons p Γ ih =>
  simp only [List.map_cons,List.nodup_cons] at hN
  rcases mC h1 with e1 | h1'<;>rcases mC h2 with e2 | h2'
  ·exact (Prod.mk.inj (e1.trans e2.symm)).1
  ·refine absurd ?_ hN.1
   rw [←e1]
   exact (List.mem_map_of_mem (f:=Prod.snd) h2':_)
  ·refine absurd ?_ hN.1
   rw [←e2]
   exact (List.mem_map_of_mem (f:=Prod.snd) h1':_)
  ·exact ih hN.2 (by
    rw [List.lookup_cons] at hx
    cases hb:x==p.1 with
    | true =>
     rw [hb] at hx;obtain rfl:=sI hx
     exact absurd (List.mem_map_of_mem (f:=Prod.snd) h1') hN.1
    | false=>rw [hb] at hx;exact hx) (by
    rw [List.lookup_cons] at hy
    cases hb:y==p.1 with
    | true =>
     rw [hb] at hy;obtain rfl:=sI hy
     exact absurd (List.mem_map_of_mem (f:=Prod.snd) h2') hN.1
    | false=>rw [hb] at hy;exact hy) h1' h2'
noncomputable def B1 (env:Env):List (Str×NameKind)→List (Str×Addr)→List (Str×Addr)
 | [],acc=>acc
 | (n,k)::r,acc=>B1 env r (if k=.free then match env.cells.lookup n with | some a=>(n,a)::acc | none=>acc else acc)
theorem QT {env:Env} (f:Str×NameKind→List (Str×Addr)→Sem (ForInStep (List (Str×Addr)))) (hf:∀ n k acc,f (n,k) acc=if k==NameKind.free then (do let a ←cellOf env n;pure (ForInStep.yield ((n,a)::acc))) else pure (ForInStep.yield acc)) :
  ∀ (names:List (Str×NameKind)) (acc:List (Str×Addr)),(∀ p∈names,p.2=.free→(env.cells.lookup p.1).isSome=true)→forIn names acc f=(pure (B1 env names acc):Sem _)
 | [],acc,_=>rfl
 | (n,k)::r,acc,h=>by
  have ih:=QT f hf r
  rw [List.forIn_cons,hf]
  unfold B1
  by_cases hk:k=.free
  ·subst hk
   refine oE (Option.isSome_iff_exists.mp (h (n,.free) (.head _) rfl)) fun a ha=>?_
   simp only [ha,beq_self_eq_true,if_true]
   unfold cellOf
   rw [ha]
   exact ih _ fun p hp=>h p (.tail _ hp)
  ·have:(k==NameKind.free)=false:=by cases k<;>first | rfl | exact absurd rfl hk
   simp only [this,hk,if_false,Bool.false_eq_true]
   exact ih _ fun p hp=>h p (.tail _ hp)
theorem WN {env:Env} {scope:Scope} (h:∀ p∈scope.names,p.2=.free→(env.cells.lookup p.1).isSome=true):closureFor scope env=pure (B1 env scope.names []):=by
 unfold closureFor
 dsimp only
 rw [QT _ (fun n k acc=>by cases k<;>rfl) scope.names [] h]
 rfl
theorem Ng {env:Env}:∀ {names:List (Str×NameKind)} {acc:List (Str×Addr)},(∀ p∈acc,env.cells.lookup p.1=some p.2)→∀ p∈B1 env names acc,env.cells.lookup p.1=some p.2
 | [],_,h=>h
 | (n,k)::r,acc,h=>by
  unfold B1
  refine Ng fun p hp=>?_
  split at hp
  ·cases ha:env.cells.lookup n with
   | none=>rw [ha] at hp;exact h p hp
   | some a =>
    rw [ha] at hp
    rcases mC hp with rfl | hp
    ·exact ha
    ·exact h p hp
  ·exact h p hp
theorem Nf {env:Env}:∀ {names:List (Str×NameKind)} {acc:List (Str×Addr)} {p:Str×Addr},p∈acc→p∈B1 env names acc
 | [],_,_,h=>h
 | (n,k)::r,acc,p,h=>by
  unfold B1
  refine Nf ?_
  split
  ·cases env.cells.lookup n with
   | none=>exact h
   | some a=>exact .tail _ h
  ·exact h
theorem Ni {env:Env} {x:Str} {a:Addr} (ha:env.cells.lookup x=some a):∀ {names:List (Str×NameKind)} {acc:List (Str×Addr)},(x,NameKind.free)∈names→(x,a)∈B1 env names acc
 | (n,k)::r,acc,h=>by
  unfold B1
  rcases mC h with e | h
  ·cases e
   simp only [if_true,ha]
   exact Nf (.head _)
  ·exact Ni ha h
theorem Co {α:Type}:∀ {l:List (Str×α)} {x:Str} {a:α},(x,a)∈l→(l.lookup x).isSome=true
 | (k,v)::r,x,a,h=>by
  rw [List.lookup_cons]
  cases hb:x==k with
  | true=>rfl
  | false =>
   rcases mC h with e | h
   ·cases e;simp at hb
   ·exact Co h
theorem Nh {env:Env} {names:List (Str×NameKind)} {x:Str} {a:Addr} (hx:(x,NameKind.free)∈names) (ha:env.cells.lookup x=some a):(B1 env names []).lookup x=some a:=by
 have h1:=Ni ha (acc:=[]) hx
 refine oE (Option.isSome_iff_exists.mp (Co h1)) fun b hb=>?_
 rw [hb,←ha]
 exact (Ng (fun p hp=>by cases hp) _ (lookup_mem hb)).symm
end Mine
end
section
namespace Mine
open PySem PySem.W PyProof.Rows PySem.Spec
open scoped Classical
structure H0 (c:Cx) (x:Tx) (Z:GA):Prop where
 an:Z.an=c.an
 gl:∀ g y,Z.gn[g]?=some y→(y==("__debug__":Str))=false∧∃ v,RV c c.B [] (x.gv g) v∧∀ (env:Env) (s:Shared) (A:Around) (P:Value→Shared→Prop) (E:Value→Shared→Prop),
  (∀ b o,c.B.get? b=some o→s.heap.get? b=some o)→env.scope.kind=.function→env.kindOf y=some .globalImplicit→env.globals=mainGlobals→env.builtins=builtinsNs→P v s→wpAny c.m A (loadName env y) P E s
noncomputable def E2 (c:Cx) (C:Ac) (n:Nat):Prop:=∀ (A:Around) (g:PV) (xs:List PV) (v:Value) (vs:List Value) (ρ:List Addr) (st:St) (s:Shared) (Q:PV→St→Prop),Ok A n→Inv c ρ st s.heap→RV c s.heap ρ g v→AQ c s.heap ρ xs vs →
 C g xs st Q→wpAny c.m A (call v vs) (Res c ρ s Q) CG s
noncomputable def ABR (c:Cx) (ρ:List Addr) (s:Shared) (k:Nat) (Q:List PV→St→Prop) (vs:List Value) (s':Shared):Prop :=
 ∃ ρ' st' xs,Q xs st'∧Step [] ρ s ρ' s'∧Inv c ρ' st' s'.heap∧AQ c s'.heap ρ' xs vs∧vs.length=k
noncomputable def Jj (c:Cx) (ρ:List Addr) (s:Shared) (Q:Bool→St→Prop) (b:Bool) (s':Shared):Prop :=
 ∃ ρ' st',Q b st'∧Step [] ρ s ρ' s'∧Inv c ρ' st' s'.heap
section
variable (c:Cx) (x:Tx) (Z:GA) (C:Ac) (n:Nat)
noncomputable def SE (e:PE):Prop:=∀ (e':Expr) (N:List (Str×NameKind)) (Γ:List (Str×Nat)) (A:Around) (env:Env) (σ:Lo) (ρ:List Addr) (st:St) (s:Shared) (Q:PV→St→Prop),
 Aq Z e N Γ e'=true→Ok A n→Inv c ρ st s.heap→FR c N Γ env s.heap ρ σ→W x C e σ st Q→wpAny c.m A (eval e' env) (Res c ρ s Q) CG s
noncomputable def ST (e:PE):Prop:=∀ (e':Expr) (N:List (Str×NameKind)) (Γ:List (Str×Nat)) (A:Around) (env:Env) (σ:Lo) (ρ:List Addr) (st:St) (s:Shared) (Q:Bool→St→Prop),
 Aq Z e N Γ e'=true→Ok A n→Inv c ρ st s.heap→FR c N Γ env s.heap ρ σ→T x C e (W x C e) σ st Q→wpAny c.m A (isTrue e' env (eval e' env)) (Jj c ρ s Q) CG s
noncomputable def WY (es:List PE):Prop:=∀ (es':List Expr) (N:List (Str×NameKind)) (Γ:List (Str×Nat)) (A:Around) (env:Env) (σ:Lo) (ρ:List Addr) (st:St) (s:Shared) (pos:Pos) (Q:List PV→St→Prop),
 Cy Z es N Γ es'=true→Ok A n→Inv c ρ st s.heap→FR c N Γ env s.heap ρ σ→Ws x C es σ st Q→wpAny c.m A (spliced (backTo pos (starEach es' env))) (ABR c ρ s es.length Q) CG s
noncomputable def SBs (es:List PE):Prop:=∀ (op:BoolOp) (es':List Expr) (N:List (Str×NameKind)) (Γ:List (Str×Nat)) (A:Around) (env:Env) (σ:Lo) (ρ:List Addr) (st:St) (s:Shared) (pos:Pos) (Q:PV→St→Prop),
 Cy Z es N Γ es'=true→Ok A n→Inv c ρ st s.heap→FR c N Γ env s.heap ρ σ→Wb x C op es σ st Q→wpAny c.m A (boolOp pos op (evalEach es' env)) (Res c ρ s Q) CG s
noncomputable def STs (es:List PE):Prop:=∀ (op:BoolOp) (es':List Expr) (N:List (Str×NameKind)) (Γ:List (Str×Nat)) (A:Around) (env:Env) (σ:Lo) (ρ:List Addr) (st:St) (s:Shared) (Q:Bool→St→Prop),
 Cy Z es N Γ es'=true→Ok A n→Inv c ρ st s.heap→FR c N Γ env s.heap ρ σ→Tb x C op es σ st Q→wpAny c.m A (allTrue op es' env) (Jj c ρ s Q) CG s
end
section
variable {c:Cx} {x:Tx} {Z:GA} {C:Ac} {n:Nat}
theorem RV.based {x:PV} {v:Value} {ρ:List Addr} {st:St} {h:Heap} (I:Inv c ρ st h) (r:RV c c.B [] x v):RV c h ρ x v :=
 RV.keep ⟨fun i a e=>by simp at e,fun a items ⟨o,ho,r⟩ _=>⟨⟨o,I.base _ _ ho,r⟩,fun q=>Nat.lt_irrefl _ (Nat.lt_of_lt_of_le (Heap.lt_size ho) (I.off a q))⟩,
  fun a _ _ _ _ _ r _=>⟨I.base _ _ r,fun q=>Nat.lt_irrefl _ (Nat.lt_of_lt_of_le (Heap.lt_size r) (I.off a q))⟩⟩ _ _ r
theorem Res.then {A:Around} {ρ:List Addr} {s:Shared} {α:Type} {t:α→Sem Value} {m:Sem α} {R:α→Shared→Prop} {P:Value→Shared→Prop} (h:wpAny c.m A m R CG s) (k:∀ a s',R a s'→wpAny c.m A (t a) P CG s'):wpAny c.m A (m >>= t) P CG s :=
 wpAny_bind (wpAny_mono h (fun a s' r=>k a s' r) fun _ _ f=>f)
theorem Vl (i:Nat):SE c x Z C n (.loc i):=by
 intro e' N Γ A env σ ρ st s Q hc hA I F h
 refine oEEA (Bn hc) fun y p z0 h1=>?_;subst z0
 refine oEA h fun v hv q=>?_
 exact wpAny_Name (F.load (eq_of_beq (AC h1).1) hv fun u r=>Id I r q) (DJ (AC h1).2)
theorem QU {i:Int} {N:List (Str×NameKind)} {Γ:List (Str×Nat)} {e':Expr} (hc:Aq Z (.int i) N Γ e'=true):(∃ a b,e'=.Constant (.int i) a b)∨∃ j a b p,e'=.UnaryOp .USub (.Constant (.int j) a b) p∧i=-j:=by
 rcases Bool.or_eq_true_iff.mp hc with h | h
 ·refine oEEEA (Pn h) fun j a b z0 h=>?_;subst z0
  exact .inl ⟨a,b,by rw [eq_of_beq h]⟩
 ·refine oEEEA (E4 h) fun o u p z0 h1=>?_;subst z0
  refine oEEEA (Pn (AC h1).2) fun j a b z0 h2=>?_;subst z0
  obtain rfl:=QJ (AC h1).1
  exact .inr ⟨j,a,b,p,rfl,eq_of_beq h2⟩
theorem Vn (i:Int):SE c x Z C n (.int i):=by
 intro e' N Γ A env σ ρ st s Q hc hA I F h
 rcases QU hc with ⟨a,b,rfl⟩ | ⟨j,a,b,p,rfl,rfl⟩
 ·exact wpAny_Constant_int (E8 I h)
 ·exact wpAny_UnaryOp (wpAny_Constant_int (PyProof.Rows.neg_int (Res.mono Step.toks (E8 (s:={ s with toks:=s.toks+1 }) I h))))
theorem Vi (y:Str):SE c x Z C n (.str y):=by
 intro e' N Γ A env σ ρ st s Q hc hA I F h
 refine oEEEA (Yr hc) fun j a b z0 h1=>?_;subst z0
 obtain rfl:=eq_of_beq h1
 exact PySem.Calls.Constant_str (LE I h)
theorem Sw (b:Bool):SE c x Z C n (.bool b):=by
 intro e' N Γ A env σ ρ st s Q hc hA I F h
 refine oEEEA (Xd hc) fun j a b z0 h1=>?_;subst z0
 obtain rfl:=eq_of_beq h1
 exact wpAny_pure (Mk I h)
theorem So:SE c x Z C n .none:=by
 intro e' N Γ A env σ ρ st s Q hc hA I F h
 refine oEE (XZ hc) fun a b z0=>?_;subst z0
 exact wpAny_pure (res_none I h)
theorem Xh (G:H0 c x Z) (g:Nat):SE c x Z C n (.gl g):=by
 intro e' N Γ A env σ ρ st s Q hc hA I F h
 refine oEEA (Bn hc) fun y p z0 h1=>?_;subst z0
 refine oA (AC (AC h1).1) fun h2 h3=>?_
 refine oAEA (G.gl g _ (eq_of_beq h2)) fun hd v r hl=>?_
 exact wpAny_Name (hl env s A _ _ I.base F.kind (F.nm _ (eq_of_beq h3)) F.glob F.blt (Id I (RV.based I r) h)) hd
theorem few {n:Nat} {l:List PE} {b:Bool} {vs:List Value} (e:vs.length=l.length) (h:(decide (l.length≤n)&&b)=true) (hn:n≤100000):vs.length≤sizeLine:=by
 rw [e];exact FJ (Nat.le_trans (of_decide_eq_true (AC h).1) hn)
theorem Vg {es:List PE} (H:WY c x Z C n es):SE c x Z C n (.tup es):=by
 intro e' N Γ A env σ ρ st s Q hc hA I F h
 refine oEEEA (C6 (AC hc).2) fun elts k pos z0 h1=>?_;subst z0
 refine wpAny_Tuple (wpAny_mono (H elts N Γ A env σ ρ st s pos _ h1 hA I F h) ?_ fun _ _ f=>f.elim)
 refine fun vs s1 z1=>oEEEAAAA z1 fun ρ' st' xs q S I' r hl=>?_
 exact ⟨few hl hc (by decide),Res.mono S (KH I' r q)⟩
theorem Sr {es:List PE} (H:WY c x Z C n es):SE c x Z C n (.list es):=by
 intro e' N Γ A env σ ρ st s Q hc hA I F h
 refine oEEA (SG (AC hc).2) fun elts pos z0 h1=>?_;subst z0
 refine wpAny_List (wpAny_mono (H elts N Γ A env σ ρ st s pos _ h1 hA I F h) ?_ fun _ _ f=>f.elim)
 refine fun vs s1 z1=>oEEEAAAA z1 fun ρ' st' xs q S I' r hl=>?_
 exact ⟨few hl hc (by decide),Res.mono S (GI (k:=s1.toks) I' r q)⟩
theorem Nr {o:Expr} {attr:Str} {env:Env} {w:Sem Value} (h:DC o=false):attributeBase o attr env w=w:=by
 cases o with
 | Call=>exact nT h
 | _=>rfl
theorem Sx (O:GB c x) (G:H0 c x Z) {e:PE} {a:Nat} (H:SE c x Z C n e):SE c x Z C n (.attr e a):=by
 intro e' N Γ A env σ ρ st s Q hc hA I F h
 refine oEEEA (C8 hc) fun v nm pos z0 h1=>?_;subst z0
 refine oA (AC (AC h1).1) fun h2 h3=>?_
 refine Attribute_any_ (wpAny_mono (H v N Γ A env σ ρ st s _ (AC h1).2 hA I F h) ?_ fun _ _ f=>f.elim) (by rw [arm_eval_Attribute,Nr (DJ h3)])
 refine fun u s1 z1=>oEEEAAA z1 fun ρ' st' y q S I' r=>?_
 exact OL O I' r q (G.an▸eq_of_beq h2) fun v y t hq ry=>Res.mono S (Cd I' ry hq)
theorem Vh {e i:PE} (H:SE c x Z C n e) (Hi:SE c x Z C n i):SE c x Z C n (.sub e i):=by
 intro e' N Γ A env σ ρ st s Q hc hA I F h
 refine oEEEA (Bh hc) fun v sl pos z0 h1=>?_;subst z0
 refine Subscript_ (wpAny_mono (H v N Γ A env σ ρ st s _ (AC h1).1 hA I F h) ?_ fun _ _ f=>f.elim)
 refine fun u s1 z1=>oEEEAAA z1 fun ρ' st' y q S I' r=>?_
 refine wpAny_mono (Hi sl N Γ A env σ ρ' st' s1 _ (AC h1).2 hA I' (F.step0 S) q) ?_ fun _ _ f=>f.elim
 refine fun w s2 z1=>oEEEAAA z1 fun ρ2 st2 k z2 S2 I2 rk=>?_;obtain ⟨v,hv,q⟩:=z2
 exact Qu hA I2 (RV.keep S2.kept0 _ _ r) rk hv fun y t ry=>Res.mono (S.trans S2) (Cd I2 ry q)
theorem Vq {op:Operator} {a b:PE} (Ha:SE c x Z C n a) (Hb:SE c x Z C n b):SE c x Z C n (.bin op a b):=by
 intro e' N Γ A env σ ρ st s Q hc hA I F h
 refine oEEEEA (Pr hc) fun a' op' b' pos z0 h1=>?_;subst z0
 refine oA (AC (AC h1).1) fun h2 h3=>?_
 obtain rfl:=of_decide_eq_true h2
 refine wpAny_BinOp (wpAny_mono (Ha _ N Γ A env σ ρ st s _ h3 hA I F h) ?_ fun _ _ f=>f.elim)
 refine fun u s1 z1=>oEEEAAA z1 fun ρ' st' y q S I' r=>?_
 refine wpAny_mono (Hb _ N Γ A env σ ρ' st' s1 _ (AC h1).2 hA I' (F.step0 S) q) ?_ fun _ _ f=>f.elim
 refine fun w s2 z1=>oEEEAAA z1 fun ρ2 st2 k q S2 I2 rk=>?_
 exact wpAny_mono (Qy I2 (RV.keep S2.kept0 _ _ r) rk q) (fun v s3 r=>Res.mono (S.trans S2) r) fun _ _ f=>f
theorem KN {op:CmpOp} {r:Expr} (h:HE r=false):behindInMarks op r=false:=by
 cases r with
 | Set=>exact nT h
 | _=>rfl
theorem UR {op:CmpOp} {a b:PE} {a' b':Expr} (Ha:SE c x Z C n a) (Hb:SE c x Z C n b) {N:List (Str×NameKind)} {Γ:List (Str×Nat)} {A:Around} {env:Env} {σ:Lo} {ρ:List Addr} {st:St} {s:Shared} {R:Bool→St→Prop} {P:Value→Shared→Prop}
  (h1:Aq Z a N Γ a'=true) (h2:Aq Z b N Γ b'=true) (hA:Ok A n) (I:Inv c ρ st s.heap) (F:FR c N Γ env s.heap ρ σ) (h:W x C a σ st fun u st=>W x C b σ st fun v st=>∃ r,C5 st op u v r∧R r st)
  (k:∀ r ρ' st' s',R r st'→Step [] ρ s ρ' s'→Inv c ρ' st' s'.heap→P (.bool r) s') :
  wpAny c.m A (eval a' env) (fun u s1=>wpAny c.m A (eval b' env) (fun w s2=>wpAny c.m A (compareOp op u w) P CG s2) CG s1) CG s:=by
 refine wpAny_mono (Ha _ N Γ A env σ ρ st s _ h1 hA I F h) ?_ fun _ _ f=>f.elim
 refine fun u s1 z1=>oEEEAAA z1 fun ρ' st' y q S I' r=>?_
 refine wpAny_mono (Hb _ N Γ A env σ ρ' st' s1 _ h2 hA I' (F.step0 S) q) ?_ fun _ _ f=>f.elim
 refine fun w s2 z1=>oEEEAAA z1 fun ρ2 st2 z z2 S2 I2 rk=>?_;obtain ⟨b,hb,q⟩:=z2
 exact Qx hA I2 (RV.keep S2.kept0 _ _ r) rk hb fun t=>k b ρ2 st2 _ q ((S.trans S2).trans Step.toks) I2
theorem Vo {op:CmpOp} {a b:PE} (Ha:SE c x Z C n a) (Hb:SE c x Z C n b):SE c x Z C n (.cmp op a b)∧ST c x Z C n (.cmp op a b):=by
 refine ⟨?_,?_⟩
 ·intro e' N Γ A env σ ρ st s Q hc hA I F h
  refine oEEEEA (J7 hc) fun a' os bs pos z0 h1=>?_;subst z0
  refine oEA (EG (AC (AC h1).1).1) fun o z0 h2=>?_;subst z0
  refine oEA (EG (AC h1).2) fun b' z0 h3=>?_;subst z0
  obtain rfl:=of_decide_eq_true h2
  exact wpAny_Compare1 (UR Ha Hb (AC (AC h1).1).2 (AC h3).2 hA I F h fun r ρ' st' s' q S I'=>Res.mono S (Mk I' q)) (KN (DJ (AC h3).1))
 ·intro e' N Γ A env σ ρ st s Q hc hA I F h
  refine oEEEEA (J7 hc) fun a' os bs pos z0 h1=>?_;subst z0
  refine oEA (EG (AC (AC h1).1).1) fun o z0 h2=>?_;subst z0
  refine oEA (EG (AC h1).2) fun b' z0 h3=>?_;subst z0
  obtain rfl:=of_decide_eq_true h2
  refine wpAny_isTrue_Compare1 (UR Ha Hb (AC (AC h1).1).2 (AC h3).2 hA I F h ?_) (KN (DJ (AC h3).1))
  refine fun r ρ' st' s' z1=>oEA z1 fun b hb q S I'=>?_
  cases hb
  exact wpAny_truthy_bool ⟨ρ',st',q,S,I'⟩
theorem Vp {op:BoolOp} {es:List PE} (H:SBs c x Z C n es) (H2:STs c x Z C n es):SE c x Z C n (.bop op es)∧ST c x Z C n (.bop op es):=by
 refine ⟨?_,?_⟩
 ·intro e' N Γ A env σ ρ st s Q hc hA I F h
  refine oEEEA (MP hc) fun o es' pos z0 h1=>?_;subst z0
  obtain rfl:=of_decide_eq_true (AC h1).1
  rw [arm_eval_BoolOp]
  exact H op _ N Γ A env σ ρ st s _ Q (AC h1).2 hA I F h
 ·intro e' N Γ A env σ ρ st s Q hc hA I F h
  refine oEEEA (MP hc) fun o es' pos z0 h1=>?_;subst z0
  obtain rfl:=of_decide_eq_true (AC h1).1
  exact wpAny_isTrue_BoolOp (H2 op _ N Γ A env σ ρ st s Q (AC h1).2 hA I F h)
theorem Vk {e:PE} (H:SE c x Z C n e) (H2:ST c x Z C n e):SE c x Z C n (.not e)∧ST c x Z C n (.not e):=by
 refine ⟨?_,?_⟩
 ·intro e' N Γ A env σ ρ st s Q hc hA I F h
  refine oEEEA (E4 hc) fun o e1 p z0 h1=>?_;subst z0
  obtain rfl:=Ty (AC h1).1
  refine wpAny_UnaryOp (wpAny_mono (H _ N Γ A env σ ρ st s _ (AC h1).2 hA I F h) ?_ fun _ _ f=>f.elim)
  refine fun u s1 z1=>oEEEAAA z1 fun ρ' st' y z2 S I' r=>?_;obtain ⟨b,hb,q⟩:=z2
  show wpAny _ _ (holding [u] _) _ _ _
  refine wpAny_holding ?_
  show wpAny _ _ (truthy u >>= fun b=>(pure (Value.bool !b):Sem Value)) _ _ _
  exact wpAny_bind (Ea I' r hb fun k=>wpAny_pure (Res.mono S (Q9 I' q)))
 ·intro e' N Γ A env σ ρ st s Q hc hA I F h
  refine oEEEA (E4 hc) fun o e1 p z0 h1=>?_;subst z0
  obtain rfl:=Ty (AC h1).1
  exact wpAny_isTrue_Not (H2 _ N Γ A env σ ρ st s _ (AC h1).2 hA I F h)
theorem Jj.mono {ρ ρ₁:List Addr} {s s₁ s':Shared} {Q:Bool→St→Prop} {b:Bool} (S:Step [] ρ s ρ₁ s₁) (r:Jj c ρ₁ s₁ Q b s'):Jj c ρ s Q b s':=by
 refine oEEAA r fun ρ' st' q S' I'=>?_
 exact ⟨ρ',st',q,S.trans S',I'⟩
theorem Vm {q a b:PE} (Hq:ST c x Z C n q) (Ha:SE c x Z C n a) (Hb:SE c x Z C n b) (Ha2:ST c x Z C n a) (Hb2:ST c x Z C n b):SE c x Z C n (.ite q a b)∧ST c x Z C n (.ite q a b):=by
 refine ⟨?_,?_⟩
 ·intro e' N Γ A env σ ρ st s Q hc hA I F h
  refine oEEEEA (Po hc) fun q' a' b' pos z0 h1=>?_;subst z0
  refine wpAny_IfExp (wpAny_mono (Hq _ N Γ A env σ ρ st s _ (AC (AC h1).1).1 hA I F h) ?_ fun _ _ f=>f.elim)
  refine fun t s1 z1=>oEEAA z1 fun ρ' st' h S I'=>?_
  cases t with
  | true=>exact wpAny_mono (Ha _ N Γ A env σ ρ' st' s1 _ (AC (AC h1).1).2 hA I' (F.step0 S) h) (fun v s3 r=>Res.mono S r) fun _ _ f=>f
  | false=>exact wpAny_mono (Hb _ N Γ A env σ ρ' st' s1 _ (AC h1).2 hA I' (F.step0 S) h) (fun v s3 r=>Res.mono S r) fun _ _ f=>f
 ·intro e' N Γ A env σ ρ st s Q hc hA I F h
  refine oEEEEA (Po hc) fun q' a' b' pos z0 h1=>?_;subst z0
  show wpAny _ _ (isTrue q' env (eval q' env) >>= fun t=>if t=true then isTrue a' env (eval a' env) else isTrue b' env (eval b' env)) _ _ _
  refine wpAny_bind (wpAny_mono (Hq _ N Γ A env σ ρ st s _ (AC (AC h1).1).1 hA I F h) ?_ fun _ _ f=>f.elim)
  refine fun t s1 z1=>oEEAA z1 fun ρ' st' h S I'=>?_
  cases t with
  | true=>exact wpAny_mono (Ha2 _ N Γ A env σ ρ' st' s1 _ (AC (AC h1).1).2 hA I' (F.step0 S) h) (fun v s3 r=>Jj.mono S r) fun _ _ f=>f
  | false=>exact wpAny_mono (Hb2 _ N Γ A env σ ρ' st' s1 _ (AC h1).2 hA I' (F.step0 S) h) (fun v s3 r=>Jj.mono S r) fun _ _ f=>f
noncomputable def CE (e':Expr):Prop:=∀ (env:Env) (w:Sem Value),isTrue e' env w=(do let v ←w;standAt e'.pos;holding [v] (truthy v))
theorem Sl {e:PE} (H:SE c x Z C n e) (hT:T x C e (W x C e)=fun σ st Q=>W x C e σ st fun v st=>∃ b,BP st v b∧Q b st)
  (hp:∀ N Γ e',Aq Z e N Γ e'=true→CE e'):ST c x Z C n e:=by
 intro e' N Γ A env σ ρ st s Q hc hA I F h
 rw [hT] at h
 rw [hp _ _ _ hc]
 refine wpAny_bind (wpAny_mono (H _ N Γ A env σ ρ st s _ hc hA I F h) ?_ fun _ _ f=>f.elim)
 refine fun u s1 z1=>oEEEAAA z1 fun ρ' st' y z2 S I' r=>?_;obtain ⟨b,hb,q⟩:=z2
 exact wpAny_bind (wpAny_standAt (wpAny_holding (Ea I' r hb fun k=>⟨ρ',st',q,S.trans Step.toks,I'⟩)))
end
end Mine
end
section
namespace Mine
open PySem PySem.W PyProof.Rows PySem.Spec
open scoped Classical
section
variable {c:Cx} {x:Tx} {Z:GA} {C:Ac} {n:Nat}
theorem CA {e:PE} {es:List PE} {N:List (Str×NameKind)} {Γ:List (Str×Nat)} {es':List Expr} (h:Cy Z (e::es) N Γ es'=true):∃ e' r,es'=e'::r∧FH e'=false∧Aq Z e N Γ e'=true∧Cy Z es N Γ r=true:=by
 cases es' with
 | nil=>exact nB h
 | cons e' r=>exact ⟨e',r,rfl,DJ (AC (AC h).1).1,(AC (AC h).1).2,(AC h).2⟩
theorem FL {N:List (Str×NameKind)} {Γ:List (Str×Nat)} {es':List Expr} (h:Cy Z [] N Γ es'=true):es'=[]:=List.isEmpty_iff.mp h
theorem FP {e:Expr} {r:List Expr} {env:Env} (h:FH e=false):starEach (e::r) env=(false,eval e env)::starEach r env:=by
 cases e<;>first | rfl | exact nT h
theorem Vr {e:PE} (H:SE c x Z C n e):SBs c x Z C n [e]:=by
 intro op es' N Γ A env σ ρ st s pos Q hc hA I F h
 refine oEEAAA (CA hc) fun e' r z0 _ h1 h2=>?_;subst z0
 obtain rfl:=FL h2
 refine wpAny_mono (H _ N Γ A env σ ρ st s _ h1 hA I F h) ?_ fun _ _ f=>f
 rintro u s1 ⟨ρ',st',y,q | q,S,I',r⟩
 ·exact ⟨ρ',st',y,q.2,S,I',r⟩
 ·exact absurd rfl q.1
theorem Yk {op:BoolOp} {b:Bool} {P:Prop} (h1:op=.And→b=false→P) (h2:op=.Or→b=true→P) (h3:op=.And→b=true→P) (h4:op=.Or→b=false→P):P:=by
 cases op<;>cases b<;>first | exact h1 rfl rfl | exact h2 rfl rfl | exact h3 rfl rfl | exact h4 rfl rfl
theorem Sz {e e2:PE} {es:List PE} (H:SE c x Z C n e) (Hs:SBs c x Z C n (e2::es)):SBs c x Z C n (e::e2::es):=by
 intro op es' N Γ A env σ ρ st s pos Q hc hA I F h
 refine oEEAAA (CA hc) fun e' r z0 _ h1 h2=>?_;subst z0
 refine oEEAAA (CA h2) fun e2' r2 z0 _ _ _=>?_;subst z0
 show wpAny _ _ (eval e' env >>= fun v=>standAt pos >>= fun _=>holding [v] (truthy v) >>= fun t=>match op,t with | .And,false | .Or,true=>pure v | _,_=>boolOp pos op (evalEach (e2'::r2) env)) _ _ _
 refine wpAny_bind (wpAny_mono (H _ N Γ A env σ ρ st s _ h1 hA I F h) ?_ fun _ _ f=>f.elim)
 rintro u s1 ⟨ρ',st',y,q | ⟨_,b,hb,q1,q2⟩,S,I',r⟩
 ·exact nC q.1
 ·refine wpAny_bind (wpAny_standAt (wpAny_bind (wpAny_holding (Ea I' r hb fun k=>?_))))
  have S':Step [] ρ s ρ' { s1 with toks:=k }:=S.trans Step.toks
  have stop:Q y st'→wpAny c.m A (pure u) (Res c ρ s Q) CG { s1 with toks:=k }:=fun q=>wpAny_pure (Res.mono S (Cd I' r q))
  have more:Wb x C op (e2::es) σ st' Q→wpAny c.m A (boolOp pos op (evalEach (e2'::r2) env)) (Res c ρ s Q) CG { s1 with toks:=k }:=fun q =>
   wpAny_mono (Hs op _ N Γ A env σ ρ' st' { s1 with toks:=k } pos Q h2 hA I' (F.step0 S') q) (fun v s3 r=>Res.mono S' r) fun _ _ f=>f
  clear hb
  cases op<;>cases b
  ·exact stop (q1 rfl)
  ·exact more (q2 rfl)
  ·exact more (q2 rfl)
  ·exact stop (q1 rfl)
theorem VZ:STs c x Z C n []:=by
 intro op es' N Γ A env σ ρ st s Q hc hA I F h
 obtain rfl:=FL hc
 exact wpAny_pure ⟨ρ,st,h,Step.refl,I⟩
theorem Sd {e:PE} {es:List PE} (H:ST c x Z C n e) (Hs:STs c x Z C n es):STs c x Z C n (e::es):=by
 intro op es' N Γ A env σ ρ st s Q hc hA I F h
 refine oEEAAA (CA hc) fun e' r z0 _ h1 h2=>?_;subst z0
 show wpAny _ _ (isTrue e' env (eval e' env) >>= fun t=>match op,t with | .And,false=>pure false | .Or,true=>pure true | _,_=>allTrue op r env) _ _ _
 refine wpAny_bind (wpAny_mono (H _ N Γ A env σ ρ st s _ h1 hA I F h) ?_ fun _ _ f=>f.elim)
 refine fun b s1 z1=>oEEAA z1 fun ρ' st' z2 S I'=>?_;obtain ⟨q1,q2⟩:=z2
 have stop:Q b st'→wpAny c.m A (pure b) (Jj c ρ s Q) CG s1:=fun q=>wpAny_pure ⟨ρ',st',q,S,I'⟩
 have more:Tb x C op es σ st' Q→wpAny c.m A (allTrue op r env) (Jj c ρ s Q) CG s1:=fun q =>
  wpAny_mono (Hs op _ N Γ A env σ ρ' st' s1 Q h2 hA I' (F.step0 S) q) (fun v s3 r=>Jj.mono S r) fun _ _ f=>f
 cases op<;>cases b
 ·exact stop (q1 rfl)
 ·exact more (q2 rfl)
 ·exact more (q2 rfl)
 ·exact stop (q1 rfl)
theorem Pv:WY c x Z C n []:=by
 intro es' N Γ A env σ ρ st s pos Q hc hA I F h
 obtain rfl:=FL hc
 exact PySem.Calls.spliced_nil ⟨ρ,st,[],h,Step.refl,I,AQ.nil,rfl⟩
theorem Ia {e:PE} {es:List PE} (H:SE c x Z C n e) (Hs:WY c x Z C n es):WY c x Z C n (e::es):=by
 intro es' N Γ A env σ ρ st s pos Q hc hA I F h
 refine oEEAAA (CA hc) fun e' r z0 h0 h1 h2=>?_;subst z0
 rw [FP h0]
 show wpAny _ _ (spliced ((false,eval e' env)::backTo pos (starEach r env))) _ _ _
 refine PySem.Calls.spliced_cons (wpAny_mono (H _ N Γ A env σ ρ st s _ h1 hA I F h) ?_ fun _ _ f=>f.elim)
 refine fun u s1 z1=>oEEEAAA z1 fun ρ' st' y q S I' r1=>?_
 refine wpAny_mono (Hs _ N Γ A env σ ρ' st' s1 pos _ h2 hA I' (F.step0 S) q) ?_ fun _ _ f=>f.elim
 refine fun vs s2 z1=>oEEEAAAA z1 fun ρ2 st2 ys q S2 I2 rs hl=>?_
 exact ⟨ρ2,st2,y::ys,q,S.trans S2,I2,AQ.cons (RV.keep S2.kept0 _ _ r1) rs,congrArg (·+1) hl⟩
theorem Cw {e:Expr} {env:Env} {A:Around} {s:Shared} {P:Value→Shared→Prop} {E:Value→Shared→Prop} (h:wpAny c.m A (eval e env) P E s):wpAny c.m A (evalPart (some e) env) P E s:=h
theorem A8 {env:Env} {A:Around} {s:Shared} {P:Value→Shared→Prop} {E:Value→Shared→Prop} (h:P .none s):wpAny c.m A (evalPart none env) P E s:=wpAny_pure h
theorem Sm {e h:PE} (H:SE c x Z C n e) (Hh:SE c x Z C n h):SE c x Z C n (.slTo e h):=by
 intro e' N Γ A env σ ρ st s Q hc hA I F hw
 refine oEEEA (Bh hc) fun v sl p z0 h1=>?_;subst z0
 refine oEEEEA (K1 h1) fun a b d p2 z0 h2=>?_;subst z0
 refine oEA (B4 (AC h2).2) fun u z0 h3=>?_;subst z0
 obtain rfl:=Option.isNone_iff_eq_none.mp (AC (AC h2).1).1
 obtain rfl:=Option.isNone_iff_eq_none.mp (AC (AC h2).1).2
 refine Subscript_ (wpAny_mono (H v N Γ A env σ ρ st s _ (AC h3).1 hA I F hw) ?_ fun _ _ f=>f.elim)
 refine fun y s1 z1=>oEEEAAA z1 fun ρ' st' o q S I' r=>?_
 refine wpAny_Slice (A8 (Cw (wpAny_mono (Hh u N Γ A env σ ρ' st' s1 _ (AC h3).2 hA I' (F.step0 S) q) ?_ fun _ _ f=>f.elim)))
 refine fun w s2 z1=>oEEEAAA z1 fun ρ2 st2 k z2 S2 I2 rk=>?_;obtain ⟨m,rfl,h0,q2⟩:=z2
 refine A8 ?_
 obtain ⟨t,rfl⟩:=rk
 have r2:=RV.keep S2.kept0 _ _ r
 cases q2 with
 | list hi hl q3=>exact wpAny_mono (OG I2 r2 hi h0 hl q3) (fun v s3 r=>Res.mono (S.trans S2) r) fun _ _ f=>f
 | fl hl q3=>exact wpAny_mono (OH I2 r2 h0 hl q3) (fun v s3 r=>Res.mono (S.trans S2) r) fun _ _ f=>f
theorem ON {e h:PE} (H:SE c x Z C n e) (Hh:SE c x Z C n h):SE c x Z C n (.slFrom e h):=by
 intro e' N Γ A env σ ρ st s Q hc hA I F hw
 refine oEEEA (Bh hc) fun v sl p z0 h1=>?_;subst z0
 refine oEEEEA (K1 h1) fun a b d p2 z0 h2=>?_;subst z0
 refine oEA (B4 (AC h2).2) fun u z0 h3=>?_;subst z0
 obtain rfl:=Option.isNone_iff_eq_none.mp (AC (AC h2).1).1
 obtain rfl:=Option.isNone_iff_eq_none.mp (AC (AC h2).1).2
 refine Subscript_ (wpAny_mono (H v N Γ A env σ ρ st s _ (AC h3).1 hA I F hw) ?_ fun _ _ f=>f.elim)
 refine fun y s1 z1=>oEEEAAA z1 fun ρ' st' o q S I' r=>?_
 refine wpAny_Slice (Cw (wpAny_mono (Hh u N Γ A env σ ρ' st' s1 _ (AC h3).2 hA I' (F.step0 S) q) ?_ fun _ _ f=>f.elim))
 refine fun w s2 z1=>oEEEAAA z1 fun ρ2 st2 k z2 S2 I2 rk=>?_;obtain ⟨m,rfl,q2⟩:=z2
 refine A8 (A8 ?_)
 obtain ⟨t,rfl⟩:=rk
 have r2:=RV.keep S2.kept0 _ _ r
 cases q2 with
 | tup a b hl q3=>exact wpAny_mono (Ma I2 r2 a b hl q3) (fun v s3 r=>Res.mono (S.trans S2) r) fun _ _ f=>f
 | list hi hl q3=>exact wpAny_mono (K8 I2 r2 hi hl q3) (fun v s3 r=>Res.mono (S.trans S2) r) fun _ _ f=>f
theorem Vj {e:PE} (H:SE c x Z C n e):SE c x Z C n (.rev e):=by
 intro e' N Γ A env σ ρ st s Q hc hA I F hw
 refine oEEEA (Bh hc) fun v sl p z0 h1=>?_;subst z0
 refine oEEEEA (K1 h1) fun a b d p2 z0 h2=>?_;subst z0
 refine oEA (B4 (AC h2).2) fun u z0 h3=>?_;subst z0
 obtain rfl:=Option.isNone_iff_eq_none.mp (AC (AC h2).1).1
 obtain rfl:=Option.isNone_iff_eq_none.mp (AC (AC h2).1).2
 refine oEEEA (E4 h3) fun o w p3 z0 h4=>?_;subst z0
 refine oEEEA (Pn (AC (AC h4).1).2) fun j a b z0 h5=>?_;subst z0
 obtain rfl:=QJ (AC (AC h4).1).1
 obtain rfl:=eq_of_beq h5
 refine Subscript_ (wpAny_mono (H v N Γ A env σ ρ st s _ (AC h4).2 hA I F hw) ?_ fun _ _ f=>f.elim)
 refine fun y s1 z1=>oEEEAAA z1 fun ρ' st' o z2 S I' r=>?_;obtain ⟨i,l,rfl,hi,hl,q⟩:=z2
 refine wpAny_Slice (A8 (A8 (Cw (wpAny_UnaryOp (wpAny_Constant_int (PyProof.Rows.neg_int ?_))))))
 exact wpAny_mono (Qw (s:={ s1 with toks:=s1.toks+1+1 }) I' r hi hl q) (fun v s3 r=>Res.mono (S.trans Step.toks) r) fun _ _ f=>f
theorem Gu {f:Value} {A:Around} {s:Shared} {args:List (Bool×Sem Value)} {P:Args→Shared→Prop} {E:Value→Shared→Prop} (hp:args.any (·.1)=false)
  (h:wpAny c.m A (spliced args) (fun vs s'=>P ⟨vs,[]⟩ s') E s):wpAny c.m A (evalArgs f true args []) P E s:=by
 cases args with
 | nil =>
  unfold evalArgs
  show wpAny _ A (spliced [] >>= _) P E s
  refine wpAny_bind (wpAny_mono h (fun vs s' h'=>?_) fun _ _ x=>x)
  refine wpAny_holding ?_
  exact wpAny_bind (wpAny_pure (wpAny_bind (wpAny_pure (wpAny_pure h'))))
 | cons p r =>
  obtain ⟨b,t⟩:=p
  cases b with
  | true=>exact nT hp
  | false=>exact PySem.Calls.evalArgs_plain h
theorem Ik {N:List (Str×NameKind)} {Γ:List (Str×Nat)} {env:Env} {pos:Pos} {es:List PE}:∀ {es':List Expr},Cy Z es N Γ es'=true→(backTo pos (starEach es' env)).any (·.1)=false:=by
 induction es with
 | nil=>intro es' h;obtain rfl:=FL h;rfl
 | cons e es ih =>
  intro es' h
  refine oEEAAA (CA h) fun e' r z0 h0 h1 h2=>?_;subst z0
  rw [FP h0]
  exact ih h2
theorem Tu (O:GB c x) {g:PV} {v:Value} {h:Heap} {ρ:List Addr} (r:RV c h ρ g v) (hg:(∃ i,g=.fn i)∨(∃ i,g=.cls i)∨∃ b,g=.bi b):∀ h',c.K.In h'→∃ k,(k=Keeper.frame∨k=Keeper.machine∨k=Keeper.boundFrame)∧Looks c.m h' (keeperOf v) k:=by
 intro h' X
 rcases hg with ⟨i,rfl⟩ | ⟨i,rfl⟩ | ⟨b,rfl⟩
 ·refine oEA r fun a ha z0=>?_;subst z0
  exact keeps_K (O.fnk i a ha) h' X
 ·refine oEA r fun a ha z0=>?_;subst z0
  exact keeps_K (O.cls i a ha).2 h' X
 ·cases r
  exact ⟨.machine,.inr (.inl rfl),by cases b<;>exact Looks.of_pure rfl⟩
theorem Gw (O:GB c x) {v:Value} {es:List PE} {es':List Expr} {N:List (Str×NameKind)} {Γ:List (Str×Nat)} {A:Around} {env:Env} {σ:Lo} {ρ:List Addr} {st:St} {s:Shared} {pos p:Pos} {Q:PV→St→Prop} {P:List PV→St→Prop}
  {first:List Value} {fx:List PV} (hA:Ok A n) (Hs:WY c x Z C n es) (hc:Cy Z es N Γ es'=true) (I:Inv c ρ st s.heap) (F:FR c N Γ env s.heap ρ σ) (rf:AQ c s.heap ρ fx first) (h:Ws x C es σ st P)
  (hk:(∀ xs st,¬P xs st)∨∀ h',c.K.In h'→∃ k,(k=Keeper.frame∨k=Keeper.machine∨k=Keeper.boundFrame)∧Looks c.m h' (keeperOf v) k)
  (hcall:∀ xs vs ρ' st' s',Step [] ρ s ρ' s'→Inv c ρ' st' s'.heap→AQ c s'.heap ρ' (fx++xs) (first++vs)→P xs st'→wpAny c.m A (call v (first++vs)) (Res c ρ' s' Q) CG s') :
  wpAny c.m A (callWith pos v first (backTo p (starEach es' env)) (backToKw p (keywordEach [] env))) (Res c ρ s Q) CG s:=by
 have hn:=Ik (pos:=p) (env:=env) hc
 rcases hk with hk | hk
 ·refine callWith_of (P:=fun _=>False) (by rw [hn];rfl) (fun _ f=>f.elim) (Gu hn (wpAny_mono (Hs es' N Γ A env σ ρ st s p _ hc hA I F h) ?_ fun _ _ f=>f.elim))
  refine fun vs s1 z1=>oEEEA z1 fun ρ' st' xs q _=>?_
  exact (hk _ _ q).elim
 ·refine callWith_of (P:=fun h=>c.K.In h) (by rw [hn];rfl) hk (Gu hn (wpAny_mono (Hs es' N Γ A env σ ρ st s p _ hc hA I F h) ?_ fun _ _ f=>f.elim))
  refine fun vs s1 z1=>oEEEAAAA z1 fun ρ' st' xs q S I' r _=>?_
  refine ⟨I'.KI O,?_⟩
  exact wpAny_mono (hcall xs vs ρ' st' s1 S I' ((AQ.keep S.kept0 _ _ rf).append r) q) (fun v s3 r=>Res.mono S r) fun _ _ f=>f
noncomputable def Callee (g:PV):Prop:=(∃ i,g=.fn i)∨(∃ i,g=.cls i)∨∃ b,g=.bi b
theorem Sv (O:GB c x) (HC:E2 c C n) (hC:∀ g xs st Q,C g xs st Q→(∃ i,g=.fn i)∨∃ i,g=.cls i) {f:PE} {es:List PE} (H:SE c x Z C n f) (Hs:WY c x Z C n es):SE c x Z C n (.call f es):=by
 intro e' N Γ A env σ ρ st s Q hc hA I F h
 refine oEEEEA (N8 hc) fun f' as' ks pos z0 h1=>?_;subst z0
 refine oEEA (Bn (AC (AC (AC h1).1).1).2) fun y p z0 _=>?_;subst z0
 obtain rfl:=List.isEmpty_iff.mp (AC (AC (AC h1).1).1).1
 rw [arm_eval_Call_Name']
 refine wpAny_bind (wpAny_mono (H _ N Γ A env σ ρ st s _ (AC (AC h1).1).2 hA I F h) ?_ fun _ _ f=>f.elim)
 refine fun v s1 z1=>oEEEAAA z1 fun ρ' st' g q S I' r=>?_
 refine wpAny_mono (Gw O hA Hs (AC h1).2 I' (F.step0 S) AQ.nil q ?_ ?_) (fun v s3 r=>Res.mono S r) fun _ _ f=>f
 ·by_cases hg:Callee g
  ·exact .inr (Tu O r hg)
  ·refine .inl fun xs st q=>hg ?_
   cases q with
   | bi=>exact .inr (.inr ⟨_,rfl⟩)
   | fn h=>exact (hC _ _ _ _ h).elim .inl fun h=>.inr (.inl h)
 ·intro xs vs ρ2 st2 s2 S2 I2 rs q
  have r2:=RV.keep S2.kept0 _ _ r
  cases q with
  | bi h=>cases r2;exact Sf hA I2 rs h
  | fn h=>exact HC A _ xs v vs ρ2 st2 s2 Q hA I2 r2 rs h
end
end Mine
end
section
namespace Mine
open PySem PySem.W PyProof.Rows PySem.Spec
open scoped Classical
section
variable {c:Cx} {x:Tx} {Z:GA} {C:Ac} {n:Nat}
theorem V5 {o':Expr} {nm:Str} {apos pos:Pos} {es':List Expr} {env:Env} {A:Around} {s:Shared} {P:Value→Shared→Prop} {E:Value→Shared→Prop} (h0:DC o'=false) (hl:(apos.endLine==pos.line)=true) (h20:es'.length≤20)
  (hn:(backTo pos (starEach es' env)).any (·.1)=false)
  (h:wpAny c.m A (eval o' env) (fun ov s1=>∀ pl,wpAny c.m A (getMethod ov nm pl) (fun p s2=>wpAny c.m A (callWith pos p.1 p.2 (backTo pos (starEach es' env)) (backToKw pos (keywordEach [] env))) P E s2) E s1) E s) :
  wpAny c.m A (eval (.Call (.Attribute o' nm apos) es' [] pos) env) P E s:=by
 rw [arm_eval_Call,Nr h0]
 refine wpAny_bind (wpAny_mono h (fun ov s1 h1=>wpAny_bind (wpAny_standAt ?_)) fun _ _ e=>e)
 have hf:methodCallForm (es'.length+([]:List Keyword).length) (backTo pos (starEach es' env)) (backToKw pos (keywordEach [] env))=true:=by
  have h1:(backTo pos (starEach es' env)).all (fun x=>!x.1)=true:=List.all_eq_true.mpr fun p hp=>congrArg not (Bool.eq_false_iff.mpr (List.any_eq_false.mp hn p hp))
  exact Bool.and_eq_true_iff.mpr ⟨Bool.and_eq_true_iff.mpr ⟨h1,rfl⟩,decide_eq_true (by show es'.length+0+0<30;omega)⟩
 have hp:methodCallPos true o' env apos pos=pure pos:=if_pos hl
 unfold methodCall
 rw [hf]
 refine wpAny_bind (wpAny_holding (wpAny_mono (h1 _) (fun p s2 h2=>?_) fun _ _ e=>e))
 rw [hp]
 exact wpAny_bind (wpAny_pure h2)
theorem WL {l:List (Int×Int)} {kvs:List (Int×Value)} (h:FdR l kvs) (k:Int) {d:PV} {w:Value} {hh:Heap} {ρ:List Addr} (hw:RV c hh ρ d w):RV c hh ρ (((l.find? fun p=>p.1==k).map fun p=>PV.int p.2).getD d) ((valueAt kvs k).getD w):=by
 induction l generalizing kvs with
 | nil =>
  cases kvs with
  | nil=>exact hw
  | cons _ _=>exact h.elim
 | cons p l ih =>
  cases kvs with
  | nil=>exact h.elim
  | cons q r =>
   refine RG h fun h1 z0 h3=>?_;obtain ⟨t,h2⟩:=z0
   have:=ih h3
   unfold valueAt at *
   rw [List.find?_cons,List.find?_cons,h1]
   by_cases hk:q.1=k
   ·rw [decide_eq_true hk,beq_of_eq hk]
    show RV c hh ρ (.int p.2) q.2
    rw [h2];exact Cl
   ·rw [decide_eq_false hk,beq_eq_false_iff_ne.mpr hk]
    exact this
theorem AQ.head {h:Heap} {ρ:List Addr} {k:PV} {ks:List PV} {v:Value} {vs:List Value} (r:AQ c h ρ (k::ks) (v::vs)):RV c h ρ k v∧AQ c h ρ ks vs:=by
 refine oEEAA (r.uncons) fun _ _ e a b=>?_
 cases e
 exact ⟨a,b⟩
theorem Sq (O:GB c x) (G:H0 c x Z) (HC:E2 c C n) {e:PE} {m:Nat} {es:List PE} (H:SE c x Z C n e) (Hs:WY c x Z C n es):SE c x Z C n (.meth e m es):=by
 intro e' N Γ A env σ ρ st s Q hc hA I F h
 refine oEEEEA (N8 hc) fun f' es' ks pos z0 h1=>?_;subst z0
 refine oEEEA (C8 (AC h1).2) fun o' nm apos z0 h2=>?_;subst z0
 obtain rfl:=List.isEmpty_iff.mp (AC (AC h1).1).1
 refine oA (AC h2) fun h3 hes=>?_
 refine oA (AC h3) fun h4 ho=>?_
 refine oA (AC h4) fun h5 hl=>?_
 have hnm:c.an[m]?=some nm:=G.an▸eq_of_beq (AC h5).1
 have hn:=Ik (pos:=pos) (env:=env) hes
 refine V5 (DJ (AC h5).2) hl (of_decide_eq_true (AC (AC h1).1).2) hn (wpAny_mono (H o' N Γ A env σ ρ st s _ ho hA I F h) ?_ fun _ _ f=>f.elim)
 refine fun u s1 z2=>oEEEAAA z2 fun ρ' st' b q S I' r pl=>?_
 have F':=F.step0 S
 have mach:∀ {a:String} (h':Heap),c.K.In h'→∃ k,(k=Keeper.frame∨k=Keeper.machine∨k=Keeper.boundFrame)∧Looks c.m h' (keeperOf (.builtin a)) k:=fun h' X=>⟨.machine,.inr (.inl rfl),Looks.of_pure rfl⟩
 clear h1 h2 h3 h4 h5 hc h
 cases q with
 | @inst j k d i l hj hm hd hlook q =>
  refine oEA (id r) fun a z0 ha=>?_;subst z0
  refine oEEEEAAAAA (Ou I' ha hj hd) fun Cc dx ens n' hC hdx hx hr ho IA=>?_
  refine oEAA (O.mth k m i Cc nm hm hC hnm) fun f hf hfi hft=>?_
  have hg:=(Kp O.anN hnm hr).2 hlook
  have O':=(O.cls k Cc hC).1
  refine method_fn (I'.KI O) IA (plainGet_of O'.get).1 (plainGet_of O'.get).2 hfi hft (by show (lookIn nm (dictOf ens n')).map _=_;rw [lookIn_dict,hg];rfl) ?_
  refine wpAny_mono (Gw (fx:=[.obj j]) O hA Hs hes I' F' (AQ.cons r AQ.nil) q (.inr (Tu (ρ:=ρ') (h:=s1.heap) O (Py hf) (.inl ⟨i,rfl⟩))) ?_) (fun v s3 r=>Res.mono S r) fun _ _ f=>f
  intro xs vs ρ2 st2 s2 S2 I2 rs q
  exact HC A _ _ _ _ ρ2 st2 s2 Q hA I2 (Py hf) rs q
 | @list j l hj hm q =>
  subst hm
  obtain rfl:=Option.some.inj (O.an0.symm.trans hnm)
  refine oEAAEA (I'.obj r hj) fun a z0 ha vs z1 _=>?_;subst z0;obtain ⟨ne,ho⟩:=z1
  refine PySem.getMethod_builtin ⟨_,ho,rfl⟩ PySem.F.plainAttrs_list PySem.F.slot_list_append PySem.F.type_list_append (fun b e=>by cases e;exact ⟨_,ho,rfl⟩) ?_
  refine wpAny_mono (Gw (v:=.builtin "list.append") (fx:=[.obj j]) O hA Hs hes I' F' (AQ.cons r AQ.nil) q (.inr mach) ?_) (fun v s3 r=>Res.mono S r) fun _ _ f=>f
  intro xs vs' ρ2 st2 s2 S2 I2 rs q
  exact KD hA I2 rs.head.1 rs.head.2 q (.inl ⟨rfl,rfl⟩)
 | @dict j l hj hm q =>
  subst hm
  obtain rfl:=Option.some.inj (O.an1.symm.trans hnm)
  refine oEAA (I'.obj r hj) fun a z0 ha ho=>?_;subst z0
  have hob:∃ ob,s1.heap.get? a=some ob∧ob.dict=none∧ob.cls=.type "dict":=by
   rcases ho with ⟨_,⟨o,_,_,ho,hx,_⟩,_⟩ | ⟨_,⟨o,_,_,ho,hx,_⟩,_⟩<;>exact ⟨o,ho,hx.2.1,hx.1⟩
  refine oEAA hob fun ob hob hd0 hcl=>?_
  refine PySem.getMethod_builtin ⟨_,hob,hcl⟩ PySem.F.plainAttrs_dict PySem.F.slot_dict_get PySem.F.type_dict_get (fun b e=>by cases e;exact ⟨_,hob,hd0⟩) ?_
  refine wpAny_mono (Gw (v:=.builtin "dict.get") (fx:=[.obj j]) O hA Hs hes I' F' (AQ.cons r AQ.nil) q (.inr mach) ?_) (fun v s3 r=>Res.mono S r) fun _ _ f=>f
  intro xs vs' ρ2 st2 s2 S2 I2 rs q
  exact KD hA I2 rs.head.1 rs.head.2 q (.inr ⟨rfl,rfl⟩)
 | @fd l hm q =>
  subst hm
  obtain rfl:=Option.some.inj (O.an1.symm.trans hnm)
  refine oEEAAA (id r) fun a kvs z0 hd hsys hf=>?_;subst z0
  refine oEEEAA (id hd) fun ob es0 ep hob hx hrest=>?_
  have hob1:=I'.base _ _ hob
  refine PySem.getMethod_builtin ⟨_,hob1,hx.1⟩ PySem.F.plainAttrs_dict PySem.F.slot_dict_get PySem.F.type_dict_get (fun b e=>by cases e;exact ⟨_,hob1,hx.2.1⟩) ?_
  refine wpAny_mono (Gw (v:=.builtin "dict.get") (fx:=[.fd l]) O hA Hs hes I' F' (AQ.cons r AQ.nil) q (.inr mach) ?_) (fun v s3 r=>Res.mono S r) fun _ _ f=>f
  refine fun xs vs' ρ2 st2 s2 S2 I2 rs z2=>oEEA z2 fun k d z3 q=>?_;subst z3
  refine oEEAA (rs.head.2.two) fun w1 w2 z0 z1 hw2=>?_;subst z0;obtain ⟨t,rfl⟩:=z1
  have hd2:s2.heap.DictOf (intKind c.prog c.w) a kvs:=⟨ob,es0,ep,I2.base _ _ hob,hx,hrest⟩
  exact call_meetsIn PySem.F.slot_dict_get hd2.mapOf.typeIs PySem.F.entry_dict_get (PySem.F.args_dict_get_3 _ _ _) (meets_dict_get_default (intKind c.prog c.w) a (k:=k) (by simp [intKind,Value.isInt]) hsys w2) ⟨_,hd2.mapOf,Cd I2 (WL hf k hw2) q⟩
end
end Mine
end
section
namespace Mine
open PySem PySem.W PyProof.Rows PySem.Spec
open scoped Classical
section
variable {c:Cx} {x:Tx} {Z:GA} {C:Ac} {n:Nat}
theorem Lu {N:List (Str×NameKind)} {g:Nat} {i:Int} {l:List (Nat×Int)} {ks:List (Option Expr)} {vs:List Expr} (h:Gv Z N ((g,i)::l) ks vs=true) :
  ∃ y p q r ks' vs',ks=some (.Name y p)::ks'∧vs=.Constant (.int i) q r::vs'∧Z.gn[g]?=some y∧N.lookup y=some .globalImplicit∧Gv Z N l ks' vs'=true:=by
 cases ks with
 | nil=>exact nB h
 | cons k ks =>
  cases vs with
  | nil=>exact nB h
  | cons v vs =>
   refine oEA (B4 (AC (AC h).1).1) fun e z0 h1=>?_;subst z0
   refine oEEA (Bn h1) fun y p z0 h2=>?_;subst z0
   refine oEEEA (Pn (AC (AC h).1).2) fun j q r z0 h3=>?_;subst z0
   obtain rfl:=eq_of_beq h3
   exact ⟨y,p,q,r,ks,vs,rfl,rfl,eq_of_beq (AC h2).1,eq_of_beq (AC h2).2,(AC h).2⟩
theorem PK (G:H0 c x Z) {N:List (Str×NameKind)} {Γ:List (Str×Nat)} {A:Around} {env:Env} {σ:Lo} {ρ:List Addr} {h0:Heap} (F:FR c N Γ env h0 ρ σ) {pos:Pos} {es:List (Nat×Int)} {kvs0:List (PV×PV)} (hp:HR x es kvs0):∀ (ks:List (Option Expr)) (vs:List Expr) (s:Shared),Gv Z N es ks vs=true→(∀ b o,c.B.get? b=some o→s.heap.get? b=some o) →
  ks.all (·.isSome)=true∧ks.length=vs.length∧ks.length=es.length ∧
  wpAny c.m A (evalPairs (pairTrees ks vs env pos)) (fun l s'=>∃ kvs:List (Int×Value),Carries (intKind c.prog c.w) l kvs∧kvs0.map (·.1)=kvs.map (fun p=>PV.int p.1)∧(∀ h ρ,AQ c h ρ (kvs0.map (·.2)) (kvs.map (·.2)))∧∃ t,s'={ s with toks:=t }) CG s:=by
 induction hp with
 | nil =>
  intro ks vs s hc hb
  obtain rfl:=List.isEmpty_iff.mp (AC hc).1
  obtain rfl:=List.isEmpty_iff.mp (AC hc).2
  exact ⟨rfl,rfl,rfl,evalPairs_nil ⟨[],trivial,rfl,fun _ _=>AQ.nil,s.toks,rfl⟩⟩
 | @cons g i es l k hg hl ih =>
  intro ks vs s hc hb
  refine oEEEEEEAAAA (Lu hc) fun y p q r ks' vs' z0 z1 h1 h2 h3=>?_;subst z0;subst z1
  refine oAEA (G.gl g y h1) fun hd v rv hld=>?_
  rw [hg] at rv
  obtain ⟨t,rfl⟩:=rv
  refine RF (ih ks' vs' s h3 hb) fun a1 a2 a3 _=>?_
  refine ⟨a1,congrArg (·+1) a2,congrArg (·+1) a3,evalPairs_cons (wpAny_Name (hld env s A _ _ hb F.kind (F.nm y h2) F.glob F.blt ?_) hd)⟩
  show wpAny _ A (eval (.Constant (.int i) q r) env >>= fun x=>standAt pos >>= fun _=>pure x) _ _ s
  refine wpAny_bind (wpAny_Constant_int (wpAny_bind (wpAny_standAt (wpAny_pure ?_))))
  refine RF (ih ks' vs' { s with toks:=s.toks+1 } h3 hb) fun _ _ _ w=>?_
  refine wpAny_mono w ?_ fun _ _ f=>f
  refine fun vs2 s2 z2=>oEAAAE z2 fun kvs c1 c2 c3 t2 z3=>?_;subst z3
  exact ⟨(k,.int i s.toks)::kvs,⟨by simp [intKind,Value.isInt],rfl,c1⟩,congrArg (_::·) c2,fun h ρ=>AQ.cons Cl (c3 h ρ),t2,rfl⟩
theorem TK {h:Heap} {ρ:List Addr} (kvs0:List (PV×PV)):∀ (kvs:List (Int×Value)) (l:List (PV×PV)) (acc:List (Int×Value)),kvs0.map (·.1)=kvs.map (fun p=>PV.int p.1)→AQ c h ρ (kvs0.map (·.2)) (kvs.map (·.2))→l.map (·.1)=acc.map (fun p=>PV.int p.1)→AQ c h ρ (l.map (·.2)) (acc.map (·.2)) →
  (kvs0.foldl (fun d p=>put d p.1 p.2) l).map (·.1)=(merged acc kvs).map (fun p=>PV.int p.1)∧AQ c h ρ ((kvs0.foldl (fun d p=>put d p.1 p.2) l).map (·.2)) ((merged acc kvs).map (·.2)):=by
 induction kvs0 with
 | nil =>
  intro kvs l acc e r e2 r2
  cases kvs with
  | nil=>exact ⟨e2,r2⟩
  | cons _ _=>exact nD e
 | cons p kvs0 ih =>
  intro kvs l acc e r e2 r2
  cases kvs with
  | nil=>exact nC e
  | cons q kvs =>
   refine oEEAA (AQ.uncons r) fun v' r' e' a b=>?_
   refine oA (List.cons.inj e') fun z0 z1=>?_;subst z0;subst z1
   have e1:p.1=.int q.1:=(List.cons.inj e).1
   have:=KM (i:=q.1) e2 r2 a
   rw [List.foldl_cons,e1]
   exact ih kvs _ _ (List.cons.inj e).2 b this.1 this.2
theorem Ss (G:H0 c x Z) (es:List (Nat×Int)):SE c x Z C n (.dict es):=by
 intro e' N Γ A env σ ρ st s Q hc hA I F h
 refine oEEEA (SJ (AC hc).2) fun ks vs pos z0 hc2=>?_;subst z0
 refine oEAA h fun kvs0 hp hlen q=>?_
 have I1:=I.push { cls:=.type "dict",data:=.dict #[] }
 by_cases hes:es=[]
 ·subst hes
  obtain rfl:=List.isEmpty_iff.mp (AC hc2).1
  obtain rfl:=List.isEmpty_iff.mp (AC hc2).2
  cases hp
  refine wpAny_Dict_empty (Pz (k:=s.toks) (po:=.dict []) I rfl ⟨fun e=>by simp at e,fun _ e=>nomatch e⟩ (fun ρ' h' kk g=>.inl ⟨[],?_,rfl,AQ.nil⟩) q)
  refine oEEEA (Heap.DictOf.new (knd:=intKind c.prog c.w) s.heap) fun o es ep ho r=>?_
  rw [Heap.get?_push_size _ rfl] at ho
  obtain rfl:=sI ho
  exact ⟨_,es,ep,g,r⟩
 ·refine RF (PK G (A:=A) (pos:=pos) F hp ks vs { s with heap:=s.heap.push { cls:=.type "dict",data:=.dict #[] } } hc2 I1.base) fun a1 a2 a3 w=>?_
  have hk0:ks≠[]:=by rintro rfl;exact hes (List.length_eq_zero_iff.mp a3.symm)
  have hpl:=pairTrees_length ks vs env pos a1 a2
  have h10:=of_decide_eq_true (AC hc).1
  refine wpAny_Dict_pairs (knd:=intKind c.prog c.w) (zip_pairTrees ks vs env pos a1 a2) (by intro e;rw [e] at hpl;exact hk0 (List.length_eq_zero_iff.mp hpl.symm)) (by rw [hpl];omega) (wpAny_mono w ?_ fun _ _ f=>f.elim)
  refine fun l s2 z2=>oEAAAE z2 fun kvs c1 c2 c3 t2 z3=>?_;subst z3
  refine ⟨kvs,c1,Heap.DictOf.new _,fun h' hd sb=>?_⟩
  have hsz:h'.objs.size=s.heap.objs.size+1:=by rw [sb.1];exact Heap.size_push ..
  have hk:∀ b o,s.heap.get? b=some o→h'.get? b=some o:=fun b o e=>(sb.2 b (Nat.ne_of_lt (Heap.lt_size e))).trans (Heap.get?_push_of_some _ e)
  refine oEEEAAA (id hd) fun o es0 ep ho hx hdd hr=>?_
  exact TC (po:=.dict (kvs0.foldl (fun d p=>put d p.1 p.2) [])) I hk (by omega) (Nat.le_refl _) ho ⟨by rw [hx.1];simp,fun vs e=>by rw [hdd] at e;cases e⟩ (fun ρ' kk=>.inl ⟨_,hd,TK kvs0 kvs [] [] c2 (c3 _ _) rfl AQ.nil⟩) q
end
end Mine
end
section
namespace Mine
open PySem PySem.W PyProof.Rows PySem.Spec
open scoped Classical
section
variable {c:Cx} {x:Tx} {Z:GA} {C:Ac} {n:Nat}
theorem Kj {A:Around} {s:Shared} {α:Type} {t:Sem α} {Q:α→Shared→Prop} {E:Value→Shared→Prop} (h:wpAny c.m A t Q CG s):wpAny c.m A t Q E s:=wpAny_mono h (fun _ _ q=>q) fun _ _ f=>f.elim
theorem Lp {A:Around} {R:Result→Shared→Prop} {elt target iter:Expr} {ifs:List Expr} {scope:Scope} {pos:Pos} {it acc:Value} {env:Env} {s:Shared} (I:Nat→Shared→Prop)
  (turn:∀ n s,I n s→wpAny c.m A (pyNext it) (fun r s₁=>match r with
   | none=>R (.ok .next) s₁
   | some v=>wpAny c.m A (letOwnedTupleGo target it v) (fun _ s₁'=>wpAny c.m A (assign target env v) (fun _ s₂ =>
     wpAny c.m A (forIn ifs true fun c r=>if r=true then do let ok ←isTrue c env (eval c env);pure (ForInStep.yield ok) else pure (ForInStep.yield r)) (fun ok s₃ =>
      if ok=true then wpAny c.m A (eval elt env) (fun x s₄=>wpAny c.m A (call (.builtin "list.append") [acc,x]) (fun _ s₅=>∃ m,m<n∧I m s₅) CG s₄) CG s₃
      else ∃ m,m<n∧I m s₃) CG s₂) CG s₁') CG s₁) CG s)
  (n:Nat) (h:I n s):codeAny c.m A (.compLoop (.ListComp elt [⟨target,iter,ifs,0⟩] scope pos) 0 it acc env) R s:=by
 refine codeAny_loop rfl I (fun n s hI=>?_) n h
 show wpAny _ A ((compTurn (.ListComp elt [⟨target,iter,ifs,0⟩] scope pos) 0 it acc env).onRaise (fun x=>do noteFrame x env;theTreesLotGoes x)) _ _ s
 refine wpAny_noted ?_
 rw [compTurn_list]
 refine wpAny_bind (wpAny_standAt (wpAny_bind (wpAny_mono (turn n s hI) (fun r s₁ h₁=>?_) fun _ _ f=>f.elim)))
 cases r with
 | none=>exact wpAny_pure h₁
 | some v =>
  refine wpAny_bind (wpAny_mono h₁ (fun _ s₁' h₁'=>?_) fun _ _ f=>f.elim)
  refine wpAny_bind (wpAny_mono h₁' (fun _ s₂ h₂=>wpAny_bind (wpAny_mono h₂ (fun ok s₃ h₃=>?_) fun _ _ f=>f.elim)) fun _ _ f=>f.elim)
  cases ok with
  | false=>exact wpAny_pure ⟨rfl,h₃⟩
  | true =>
   exact wpAny_bind (wpAny_bind (wpAny_mono h₃ (fun x s₄ h₄=>wpAny_bind (wpAny_mono h₄ (fun _ s₅ h₅=>wpAny_pure (wpAny_pure ⟨rfl,h₅⟩)) fun _ _ f=>f.elim)) fun _ _ f=>f.elim))
noncomputable def YR (tn:List (Str×Nat)) (σ:Lo):Lo:=tn.foldl (fun σ p=>σ.set p.2 none) σ
theorem PP (tn:List (Str×Nat)):∀ σ:Lo,(YR tn σ).length=σ.length:=by
 induction tn with
 | nil=>exact fun _=>rfl
 | cons p tn ih=>exact fun σ=>(ih _).trans List.length_set
theorem HL (tn:List (Str×Nat)):∀ (σ:Lo) (j:Nat),j∉tn.map (·.2)→(YR tn σ)[j]?=σ[j]?:=by
 induction tn with
 | nil=>exact fun _ _ _=>rfl
 | cons p tn ih=>exact fun σ j h=>(ih _ j fun q=>h (.tail _ q)).trans (List.getElem?_set_ne fun q=>h (List.mem_cons.mpr (.inl q.symm)))
theorem YQ (tn:List (Str×Nat)):∀ (σ:Lo) (j:Nat) (v:PV),j∈tn.map (·.2)→(YR tn σ)[j]?≠some (some v):=by
 induction tn with
 | nil=>exact fun _ _ _ h=>nL h
 | cons p tn ih =>
  intro σ j v h
  by_cases h2:j∈tn.map (·.2)
  ·exact ih _ j v h2
  ·obtain rfl:j=p.2:=(mC h).resolve_right h2
   intro e
   refine Or.elim (E6 ((HL tn _ _ h2).symm.trans e)) (fun z0=>oA z0 fun _ e=>?_) fun z1=>oA z1 fun e _=>?_
   ·exact nO e
   ·exact e rfl
theorem WJ (L:List (Nat×PV)):∀ (σ₁ σ₂:Lo),σ₁.length=σ₂.length→(∀ j,j∉L.map (·.1)→σ₁[j]?=σ₂[j]?)→L.foldl (fun σ p=>σ.set p.1 (some p.2)) σ₁=L.foldl (fun σ p=>σ.set p.1 (some p.2)) σ₂:=by
 induction L with
 | nil=>exact fun σ₁ σ₂ _ h=>List.ext_getElem? fun j=>h j (fun q=>nL q)
 | cons p L ih =>
  intro σ₁ σ₂ hl h
  refine ih _ _ (by rw [List.length_set,List.length_set];exact hl) fun j hj=>?_
  by_cases e:p.1=j
  ·subst e
   rw [List.getElem?_set_self',List.getElem?_set_self']
   by_cases hlt:p.1<σ₁.length
   ·rw [List.getElem?_eq_getElem hlt,List.getElem?_eq_getElem (hl▸hlt)];rfl
   ·rw [List.getElem?_eq_none (Nat.not_lt.mp hlt),List.getElem?_eq_none (hl▸Nat.not_lt.mp hlt)]
  ·rw [List.getElem?_set_ne e,List.getElem?_set_ne e]
   exact h j fun q=>(mC q).elim (fun q=>e q.symm) hj
theorem Tn.names {t:PT} {t':Expr} {tn:List (Str×Nat)} {y:Str} (h:Tn t t' tn) (g:Tg y t'):∃ p∈tn,p.1=y:=by
 cases h with
 | one=>cases g;exact ⟨_,.head _,rfl⟩
 | many =>
  cases g with
  | many g =>
   refine oEA (mQ g) fun z hz e=>?_
   exact ⟨z.1,List.mem_map_of_mem hz,(Expr.Name.inj e).1⟩
theorem Ue {t:PT} {t':Expr} {tn:List (Str×Nat)} {v:PV} {σ σ':Lo} (h:Tn t t' tn) (b:Ff σ t v σ'):Ff (YR tn σ) t v σ':=by
 cases h with
 | @one i x p =>
  cases b
  have e:(YR [(x,i)] σ).set i (some v)=σ.set i (some v):=List.set_set ..
  rw [←e];exact .one i v
 | @many xs =>
  cases b with
  | @many _ vs hl =>
   rw [←WJ _ (YR (xs.map (·.1)) σ) _ (PP _ σ) fun j hj=>HL _ σ j fun hm=>hj ?_]
   ·exact .many hl
   ·rw [List.map_fst_zip (Nat.le_of_eq hl)]
    rw [List.map_map] at hm;exact hm
theorem JF {st:St} {v:PV} {its:List PV} (h:C2 st v its):same v its st:=by
 cases h with
 | list e=>exact e
 | _=>trivial
end
end Mine
end
section
namespace Mine
open PySem PySem.W PyProof.Rows PySem.Spec
open scoped Classical
section
variable {c:Cx} {x:Tx} {Z:GA} {C:Ac} {n:Nat}
structure IM (N:List (Str×NameKind)) (Γ:List (Str×Nat)) (scope:Scope) (tn:List (Str×Nat)):Prop where
 kind:scope.kind=.function
 nocell:∀ p∈scope.names,p.2≠.cell
 once:∀ p∈scope.names,scope.names.lookup p.1=some p.2
 free:∀ p∈scope.names,p.2=.free→N.lookup p.1=some .cell∨N.lookup p.1=some .free
 tgt:∀ p∈tn,scope.names.lookup p.1=some .local
 tl:∀ p∈tn,(tn++Ay scope.names Γ).lookup p.1=some p.2
 nd:((tn++Ay scope.names Γ).map (·.2)).Nodup
theorem Pw {N:List (Str×NameKind)} {Γ:List (Str×Nat)} {scope:Scope} {tn:List (Str×Nat)} (h:JZ N Γ scope tn=true):IM N Γ scope tn:=by
 simp only [JZ,Bool.and_eq_true,decide_eq_true_eq,List.all_eq_true,bne_iff_ne,ne_eq,beq_iff_eq,Bool.or_eq_true] at h
 obtain ⟨⟨⟨⟨⟨h1,h2⟩,h3⟩,h4⟩,h5⟩,h6⟩:=h
 exact ⟨h1,h2,h3,fun p hp e=>by rcases h4 p hp with (h | h) | h;exact absurd e h;exact .inl h;exact .inr h,fun p hp=>(h5 p hp).1,fun p hp=>(h5 p hp).2,h6⟩
theorem Jr {α:Type} {l₁ l₂:List (Str×α)} {y:Str}:(l₁++l₂).lookup y=(l₁.lookup y).or (l₂.lookup y):=by
 induction l₁ with
 | nil=>rfl
 | cons p l ih =>
  obtain ⟨k,v⟩:=p
  simp only [List.cons_append,List.lookup_cons]
  cases y==k<;>simp [ih]
theorem Lv {N':List (Str×NameKind)} {Γ:List (Str×Nat)} {y:Str} {i:Nat} (h:(Ay N' Γ).lookup y=some i):(y,NameKind.free)∈N'∧Γ.lookup y=some i:=by
 have:=lookup_mem h
 refine oEA (List.mem_filterMap.mp this) fun p hp e=>?_
 split at e
 ·rename_i hk
  refine oEA (oM e) fun i' h1 h2=>?_
  cases h2
  obtain ⟨a,b⟩:=p
  dsimp only at hk
  subst hk
  exact ⟨hp,h1⟩
 ·exact nO e
theorem Dk {scope:Scope} {env:Env} {y:Str}:∀ {names:List (Str×NameKind)} {k:NameKind},names.lookup y=some k →
  (names.map fun (n,k)=>if (k==NameKind.free&&env.scope.kind==.function&&env.kindOf n==some .cell) then (n,NameKind.cell) else (n,k)).lookup y =
   some (if (k==NameKind.free&&env.scope.kind==.function&&env.kindOf y==some .cell) then .cell else k)
 | (n,k')::r,k,h=>by
  show List.lookup y ((if (k'==NameKind.free&&env.scope.kind==.function&&env.kindOf n==some .cell)=true then (n,NameKind.cell) else (n,k'))::_)=_
  have e:(if (k'==NameKind.free&&env.scope.kind==.function&&env.kindOf n==some .cell)=true then (n,NameKind.cell) else (n,k')) =
   (n,if (k'==NameKind.free&&env.scope.kind==.function&&env.kindOf n==some .cell)=true then NameKind.cell else k'):=by split<;>rfl
  rw [e]
  rw [List.lookup_cons] at h ⊢
  cases hb:y==n with
  | true =>
   rw [hb] at h
   obtain rfl:=sI h
   rw [beq_iff_eq.mp hb]
  | false =>
   rw [hb] at h
   exact Dk (scope:=scope) h
 | [],_,h=>by simp at h
theorem FR.weaken {N:List (Str×NameKind)} {Γ:List (Str×Nat)} {env:Env} {h:Heap} {ρ:List Addr} {σ σ':Lo} (F:FR c N Γ env h ρ σ) (hs:∀ y i v,Γ.lookup y=some i→σ'[i]?=some (some v)→σ[i]?=some (some v)):FR c N Γ env h ρ σ' where
 kind:=F.kind
 glob:=F.glob
 blt:=F.blt
 nm:=F.nm
 lk:=F.lk
 ck:=F.ck
 kd:=F.kd
 uniq:=F.uniq
 loc:=by
  refine oEA (F.loc) fun m hn f=>?_
  exact ⟨m,hn,fun y i v a b e=>f y i v a b (hs y i v a e)⟩
 cel:=fun y a hk ha=>by
  refine oEA (F.cel y a hk ha) fun w hw f=>?_
  exact ⟨w,hw,fun i v a e=>f i v a (hs y i v a e)⟩
 inj:=F.inj
 out:=F.out
theorem FR.comp {N:List (Str×NameKind)} {Γ tn:List (Str×Nat)} {env:Env} {h:Heap} {ρ:List Addr} {σ:Lo} {scope:Scope} {Cc:Addr} {m:Str→Option Value} (F:FR c N Γ env h ρ σ) (S:IM N Γ scope tn) (hm:h.Ns Cc m) (hC:Cc∉ρ) (hB:c.B.objs.size≤Cc) :
  FR c scope.names (tn++Ay scope.names Γ) (compEnvC scope (B1 env scope.names []) Cc env) h ρ (YR tn σ):=by
 have kof:∀ y k,scope.names.lookup y=some k→(compEnvC scope (B1 env scope.names []) Cc env).kindOf y=some (if (k==NameKind.free&&env.scope.kind==.function&&env.kindOf y==some .cell) then .cell else k) :=
  fun y k e=>Dk (scope:=scope) (env:=env) e
 have kfree:∀ y,(y,NameKind.free)∈scope.names→(compEnvC scope (B1 env scope.names []) Cc env).kindOf y=some .cell∧env.kindOf y=some .cell∧∃ a,env.cells.lookup y=some a∧(B1 env scope.names []).lookup y=some a:=fun y hy=>by
  refine oA (F.ck y (S.free _ hy rfl)) fun h1 h2=>?_
  refine oE (Option.isSome_iff_exists.mp h2) fun a ha=>?_
  refine ⟨?_,h1,a,ha,Nh hy ha⟩
  rw [kof y .free (S.once _ hy),h1,F.kind]
  simp
 have kback:∀ y,(compEnvC scope (B1 env scope.names []) Cc env).kindOf y=some .cell→(y,NameKind.free)∈scope.names:=fun y hy=>by
  cases hl:scope.names.lookup y with
  | none =>
   exfalso
   have:∀ names:List (Str×NameKind),names.lookup y=none→(names.map fun (n,k)=>if (k==NameKind.free&&env.scope.kind==.function&&env.kindOf n==some .cell) then (n,NameKind.cell) else (n,k)).lookup y=none:=by
    intro names
    induction names with
    | nil=>intro _;rfl
    | cons p r ih =>
     obtain ⟨n,k⟩:=p
     intro h
     show List.lookup y ((if (k==NameKind.free&&env.scope.kind==.function&&env.kindOf n==some .cell)=true then (n,NameKind.cell) else (n,k))::_)=_
     have e:(if (k==NameKind.free&&env.scope.kind==.function&&env.kindOf n==some .cell)=true then (n,NameKind.cell) else (n,k)) =
      (n,if (k==NameKind.free&&env.scope.kind==.function&&env.kindOf n==some .cell)=true then NameKind.cell else k):=by split<;>rfl
     rw [e]
     rw [List.lookup_cons] at h ⊢
     cases hb:y==n with
     | true=>rw [hb] at h;cases h
     | false=>rw [hb] at h;exact ih h
   have h0:=this _ hl
   have h1:(compEnvC scope (B1 env scope.names []) Cc env).kindOf y=none:=h0
   rw [h1] at hy;exact nO hy
  | some k =>
   have h1:=kof y k hl
   rw [hy] at h1
   have hm:=lookup_mem hl
   cases k with
   | free=>exact hm
   | cell=>exact absurd rfl (S.nocell _ hm)
   | _=>simp at h1
 have split:∀ y i,(tn++Ay scope.names Γ).lookup y=some i→(i∈tn.map (·.2)∧scope.names.lookup y=some .local)∨((y,NameKind.free)∈scope.names∧Γ.lookup y=some i∧i∉tn.map (·.2)):=fun y i e=>by
  rw [Jr] at e
  cases ht:tn.lookup y with
  | some j =>
   rw [ht] at e
   cases e
   have:=lookup_mem ht
   exact .inl ⟨List.mem_map_of_mem (f:=Prod.snd) this,S.tgt _ this⟩
  | none =>
   rw [ht] at e
   have e:(Ay scope.names Γ).lookup y=some i:=by simpa using e
   refine oA (Lv e) fun h1 h2=>?_
   refine .inr ⟨h1,h2,fun hi=>?_⟩
   have nd:=S.nd
   rw [List.map_append,List.nodup_append] at nd
   exact nd.2.2 _ hi _ (List.mem_map_of_mem (f:=Prod.snd) (lookup_mem e)) rfl
 refine ⟨S.kind,F.glob,F.blt,fun y hy=>?_,fun y hy=>by rw [kof y _ hy];rfl,fun y hy=>?_,fun y i e=>?_,fun y z i h1 h2=>BF S.nd h1 h2,⟨m,hm,fun y i v e hk hv=>?_⟩,fun y a hk ha=>?_,fun y z a hy hz h1 h2=>?_,fun b hb=>?_⟩
 ·rw [kof y _ hy];rfl
 ·rcases hy with hy | hy
  ·exact absurd rfl (S.nocell _ (lookup_mem hy))
  ·refine oAAEA (kfree y (lookup_mem hy)) fun h1 _ a _ h2=>?_
   exact ⟨h1,by show ((B1 env scope.names []).lookup y).isSome=true;rw [h2];rfl⟩
 ·refine Or.elim (split y i e) (fun z0=>oA z0 fun _ h=>?_) fun z1=>oA z1 fun h _=>?_
  ·exact .inl (by rw [kof y _ h];rfl)
  ·refine oAAEA (kfree y h) fun h1 _ a _ h2=>?_
   exact .inr ⟨h1,by show ((B1 env scope.names []).lookup y).isSome=true;rw [h2];rfl⟩
 ·refine Or.elim (split y i e) (fun z0=>oA z0 fun hi _=>?_) fun z1=>oA z1 fun h _=>?_
  ·exact absurd hv (YQ tn σ i v hi)
  ·refine oA (kfree y h) fun h1 _=>?_
   rw [hk] at h1;cases h1
 ·have hy:=kback y hk
  refine oAAEA (kfree y hy) fun _ hko a' ha' hl=>?_
  have:(B1 env scope.names []).lookup y=some a:=ha
  rw [hl] at this;cases this
  refine oEA (F.cel y a hko ha') fun w hw f=>?_
  refine ⟨w,hw,fun i v e hv=>?_⟩
  refine Or.elim (split y i e) (fun z0=>oA z0 fun _ h=>?_) fun z1=>RG z1 fun _ h2 h3=>?_
  ·have:=S.once _ hy
   rw [h] at this;cases this
  ·exact f i v h2 (by rw [←HL tn σ i h3];exact hv)
 ·refine oAAEA (kfree y (kback y hy)) fun _ k1 a1 e1 l1=>?_
  refine oAAEA (kfree z (kback z hz)) fun _ k2 a2 e2 l2=>?_
  have q1:(B1 env scope.names []).lookup y=some a:=h1
  have q2:(B1 env scope.names []).lookup z=some a:=h2
  rw [l1] at q1;rw [l2] at q2
  cases q1;cases q2
  exact F.inj y z a k1 k2 e1 e2
 ·rcases Lm hb with rfl | ⟨y,hy,hl⟩
  ·exact ⟨hC,hB⟩
  ·refine oAAEA (kfree y (kback y hy)) fun _ k1 a1 e1 l1=>?_
   have q1:(B1 env scope.names []).lookup y=some b:=hl
   rw [l1] at q1;cases q1
   exact F.out b (IF k1 e1)
end
end Mine
end
section
namespace Mine
open PySem PySem.W PyProof.Rows PySem.Spec
open scoped Classical
section
variable {c:Cx} {x:Tx} {Z:GA} {C:Ac} {n:Nat}
theorem Step.weaken {fp fp' ρ ρ₁:List Addr} {s s₁:Shared} (S:Step fp ρ s ρ₁ s₁) (h:∀ b∈fp,b∈fp'):Step fp' ρ s ρ₁ s₁ :=
 ⟨S.pre,S.new,fun b o e n f=>S.keep b o e n fun q=>f (h b q),S.size,S.gens,S.drawn,S.os⟩
theorem PlainList.at' {h h':Heap} {a:Addr} {its:Array Value} (p:h.PlainList a its) (hk:∀ o,h.get? a=some o→h'.get? a=some o):h'.PlainList a its:=p.at hk
noncomputable def UW (Z:GA) (cond:PE) (N:List (Str×NameKind)) (Γ:List (Str×Nat)) (ifs:List Expr):Bool:=match ifs with
 | []=>LW cond
 | q::r=>r.isEmpty&&Aq Z cond N Γ q
theorem Tw {e:PE} (h:LW e=true):e=.bool true:=by
 cases e with
 | bool b=>exact congrArg PE.bool h
 | _=>exact nB h
theorem Qr {cond:PE} {ifs:List Expr} {N:List (Str×NameKind)} {Γ:List (Str×Nat)} {A:Around} {env:Env} {σ:Lo} {ρ:List Addr} {st:St} {s:Shared} {Q:Bool→St→Prop} (Hc:ST c x Z C n cond) (hc:UW Z cond N Γ ifs=true) (hA:Ok A n) (I:Inv c ρ st s.heap) (F:FR c N Γ env s.heap ρ σ)
  (h:T x C cond (W x C cond) σ st Q) :
  wpAny c.m A (forIn ifs true fun c r=>if r=true then do let ok ←isTrue c env (eval c env);pure (ForInStep.yield ok) else pure (ForInStep.yield r)) (Jj c ρ s Q) CG s:=by
 cases ifs with
 | nil =>
  obtain rfl:=Tw hc
  refine oEA h fun b hb q=>?_
  cases hb
  exact wpAny_tests_nil ⟨ρ,st,q,Step.refl,I⟩
 | cons q r =>
  have hc:(r.isEmpty&&Aq Z cond N Γ q)=true:=hc
  obtain rfl:=List.isEmpty_iff.mp (AC hc).1
  exact wpAny_tests_one (Hc q N Γ A env σ ρ st s Q (AC hc).2 hA I F h)
structure Loc (c:Cx) (N:List (Str×NameKind)) (Γ:List (Str×Nat)) (env:Env) (σ:Lo) (v:PV) (its:List PV) (J D Cc:Addr) (j:Nat) (out:List PV) (ys:List Value) (ρ:List Addr) (s:Shared):Prop where
 it:Bw c s.heap ρ J its j v
 lst:s.heap.PlainList D (List.toArray ys)
 r:AQ c s.heap ρ out ys
 ns:∃ m,s.heap.Ns Cc m
 F:FR c N Γ env s.heap ρ σ
 nJ:J∉ρ
 nD:D∉ρ
 nC:Cc∉ρ
section
variable {N:List (Str×NameKind)} {Γ:List (Str×Nat)} {env:Env} {σ:Lo} {v:PV} {its:List PV} {J D Cc:Addr} {j:Nat} {out:List PV} {ys:List Value} {ρ ρ':List Addr} {s s':Shared}
theorem LL {h h':Heap} {a:Addr} {m:Str→Option Value} (x:h.Ns a m) (k:∀ o,h.get? a=some o→h'.get? a=some o):h'.Ns a m:=by
 refine oEEEA x fun o es ep ho r=>?_;exact ⟨o,es,ep,k o ho,r⟩
theorem Loc.step {fp:List Addr} (L:Loc c N Γ env σ v its J D Cc j out ys ρ s) (S:Step fp ρ s ρ' s') (hf:Off s.heap fp) (hF:∀ b∈A4 env,b∉fp) (fJ:J∉fp) (fD:D∉fp) (fC:Cc∉fp):Loc c N Γ env σ v its J D Cc j out ys ρ' s':=by
 obtain ⟨it,⟨e,hd⟩,r,⟨m,hm⟩,F,nJ,nD,nC⟩:=L
 have k:=S.kept hf
 refine ⟨it.keep k fun o e=>S.keep J o e nJ fJ,⟨e,S.keep D _ hd nD fD⟩,AQ.keep k _ _ r,⟨m,LL hm fun o e=>S.keep Cc o e nC fC⟩,F.step S hf hF,?_,S.notin hd nD,?_⟩
 ·refine oEEA (it.obj) fun o _ ho _=>?_;exact S.notin ho nJ
 ·refine oEEEA hm fun o es ep ho _=>?_;exact S.notin ho nC
theorem Loc.step0 (L:Loc c N Γ env σ v its J D Cc j out ys ρ s) (S:Step [] ρ s ρ' s'):Loc c N Γ env σ v its J D Cc j out ys ρ' s' :=
 L.step S Off.nil (fun _ _ q=>nL q) (fun q=>nL q) (fun q=>nL q) fun q=>nL q
theorem TV {h:Heap} {a:Addr} {ys:Array Value} (p:h.PlainList a ys):Off h [a]:=fun b hb o ho=>by
 rw [List.mem_singleton] at hb;subst hb
 obtain ⟨e,hd⟩:=p
 rw [hd] at ho;obtain rfl:=sI ho
 exact ⟨fun _ _ _ q=>by simp at q,fun _ q=>by cases q⟩
theorem Inv.but {st:St} {a:Addr} {h h':Heap} (I:Inv c ρ st h) (e:Heap.ExtBut a h h') (k:Kept ρ h ρ h') (n:a∉ρ) (b:c.B.objs.size≤a) (hz:h.objs.size≤h'.objs.size):Inv c ρ st h' :=
 I.kept (ρ':=ρ) k (fun b hb o q=>e b o (fun q=>n (q▸hb)) q) (fun b' o q=>e b' o (fun q2=>by subst q2;exact Nat.lt_irrefl _ (Nat.lt_of_lt_of_le (Heap.lt_size q) b)) (I.base b' o q)) hz
theorem Step.but {a:Addr} {h':Heap} {tk:Nat} (e:Heap.ExtBut a s.heap h') (hz:s.heap.objs.size≤h'.objs.size):Step [a] ρ s ρ { s with heap:=h',toks:=tk } :=
 ⟨List.prefix_refl _,fun _ q=>.inl q,fun b o q _ nf=>e b o (fun q=>nf (List.mem_singleton.mpr q)) q,hz,rfl,rfl,rfl⟩
noncomputable def AAH (c:Cx) (N:List (Str×NameKind)) (Γ:List (Str×Nat)) (env:Env) (σ:Lo) (v:PV) (its:List PV) (J D Cc:Addr) (ρ:List Addr) (s:Shared) (R:List PV→List PV→St→Prop) (k:Nat) (s':Shared):Prop :=
 ∃ (j:Nat) (ρ':List Addr) (st':St) (out:List PV) (ys:List Value),k+j=its.length∧Step [J,D,Cc] ρ s ρ' s'∧Inv c ρ' st' s'.heap∧same v its st'∧Loc c N Γ env σ v its J D Cc j out ys ρ' s'∧R (its.drop j) out st'
end
theorem JY {Γ:List (Str×Nat)} {t:PT} {e:Expr} (h:UV Γ t e=true):(∃ y p,e=.Name y p)∨∃ es k p,e=.Tuple es k p:=by
 cases t with
 | one i=>refine oEEA (Bn h) fun y p z0 _=>?_;subst z0;exact .inl ⟨_,_,rfl⟩
 | many l=>refine oEEEA (C6 h) fun y p q z0 _=>?_;subst z0;exact .inr ⟨_,_,_,rfl⟩
theorem UO {elt cond:PE} {elt' t' it':Expr} {ifs:List Expr} {t:PT} {scope:Scope} {pos:Pos} {tn:List (Str×Nat)} {N:List (Str×NameKind)} {Γ:List (Str×Nat)} {A:Around} {env:Env} {σ:Lo} {ρ:List Addr} {st:St} {s:Shared} {v:PV} {its:List PV} {J D Cc:Addr}
  {R:Result→Shared→Prop} {Q:List PV→St→Prop} (He:SE c x Z C n elt) (Hc:ST c x Z C n cond) (ht:Tn t t' tn) (S:IM N Γ scope tn) (he:Aq Z elt scope.names (tn++Ay scope.names Γ) elt'=true) (hif:UW Z cond scope.names (tn++Ay scope.names Γ) ifs=true)
  (hA:Ok A n) (I:Inv c ρ st s.heap) (L:Loc c N Γ env σ v its J D Cc 0 [] [] ρ s) (hs:same v its st)
  (hJD:J≠D) (hJC:J≠Cc) (hDC:D≠Cc) (bC:c.B.objs.size≤Cc) (bJ:c.B.objs.size≤J) (bD:c.B.objs.size≤D) (fJ:J∉A4 env) (fD:D∉A4 env) (fC:Cc∉A4 env)
  (h:Gd (W x C elt) (T x C cond (W x C cond)) t v its σ its [] st Q)
  (hQ:∀ ρ' st' out ys s',Q out st'→Step [J,D,Cc] ρ s ρ' s'→Inv c ρ' st' s'.heap→s'.heap.PlainList D (List.toArray ys)→AQ c s'.heap ρ' out ys→(∃ m,s'.heap.Ns Cc m)→R (.ok .next) s') :
  codeAny c.m A (.compLoop (.ListComp elt' [⟨t',it',ifs,0⟩] scope pos) 0 (.ref J) (.ref D) (compEnvC scope (B1 env scope.names []) Cc env)) R s:=by
 have one:∀ {a b:Addr},a≠b→a∉[b]:=fun h q=>h (List.mem_singleton.mp q)
 have foot:∀ {a:Addr},a∉A4 env→∀ b∈A4 env,b∉[a]:=fun h b hb q=>h (List.mem_singleton.mp q▸hb)
 have inJ:∀ b∈[J],b∈[J,D,Cc]:=fun b q=>List.mem_singleton.mp q▸.head _
 have inD:∀ b∈[D],b∈[J,D,Cc]:=fun b q=>List.mem_singleton.mp q▸.tail _ (.head _)
 have inC:∀ b∈[Cc],b∈[J,D,Cc]:=fun b q=>List.mem_singleton.mp q▸.tail _ (.tail _ (.head _))
 refine Lp (AAH c N Γ env σ v its J D Cc ρ s fun l out st=>Gd (W x C elt) (T x C cond (W x C cond)) t v its σ l out st Q) ?_ its.length ⟨0,ρ,st,[],[],rfl,Step.refl,I,hs,L,h⟩
 refine fun k s1 z1=>oEEEEEAAAAA z1 fun j ρ1 st1 out ys hkj S1 I1 same1 L1 h1=>?_
 refine IY hA I1 L1.it same1 (fun y hy h2 u tk sb it2 ru=>?_) fun hn h2 he2 hz=>?_
 ·have hlt:j<its.length:=(gI hy).1
  have hm:its.length-(j+1)<k∧its.length-(j+1)+(j+1)=its.length:=by omega
  rw [show its.drop j=y::its.drop (j+1) by rw [List.drop_eq_getElem_cons hlt,(gI hy).2]] at h1
  refine oEA h1 fun σ' hb h1=>?_
  have Sn:Step [J] ρ1 s1 ρ1 { s1 with heap:=h2,toks:=tk }:=Step.but sb.extBut (Nat.le_of_eq sb.1.symm)
  have offJ:=GO L1.it
  have kJ:=Sn.kept offJ
  have I2:=I1.but sb.extBut kJ L1.nJ bJ (Nat.le_of_eq sb.1.symm)
  refine oE (L1.ns) fun m1 hm1=>?_
  have F2:FR c N Γ env h2 ρ1 σ:=L1.F.step Sn offJ (foot fJ)
  have L2:Loc c N Γ env σ v its J D Cc (j+1) out ys ρ1 { s1 with heap:=h2,toks:=tk }:=⟨it2,PlainList.at' L1.lst fun o e=>(sb.2 D (Ne.symm hJD)).trans e,AQ.keep kJ _ _ L1.r,⟨m1,hm1.sameBut sb (Ne.symm hJC)⟩,F2,L1.nJ,L1.nD,L1.nC⟩
  have hchk:UV (tn++Ay scope.names Γ) t t'=true:=OF ht S.tl
  refine JC (JY hchk) it2 ?_
  have Fc:=F2.comp S (hm1.sameBut sb (Ne.symm hJC)) L1.nC bC
  have loc:∀ b∈[Cc],b∈A4 (compEnvC scope (B1 env scope.names []) Cc env):=fun b hb=>List.mem_singleton.mp hb▸List.mem_cons_self
  refine Dg (fp:=[Cc]) (s:={ s1 with heap:=h2,toks:=tk }) hA I2 Fc hchk loc (fun y hy=>?_) ru (Ue ht hb) fun s3 S3 I3 F3=>?_
  ·refine oEA (ht.names hy) fun p hp z0=>?_;subst z0
   exact ⟨fun _=>.head _,fun a hk _=>by
    rw [show (compEnvC scope (B1 env scope.names []) Cc env).kindOf p.1=some .local from Dk (scope:=scope) (env:=env) (S.tgt p hp)] at hk;exact nomatch hk⟩
  have offC:Off h2 [Cc]:=fun b hb=>Fc.off b (loc b hb)
  have k3:=S3.kept offC
  refine oEA (F3.loc) fun m3 hm3 _=>?_
  have L3:Loc c N Γ env σ v its J D Cc (j+1) out ys ρ1 s3:=⟨it2.keep k3 fun o e=>S3.keep J o e L2.nJ (one hJC),PlainList.at' L2.lst fun o e=>S3.keep D o e L2.nD (one hDC),AQ.keep k3 _ _ L2.r,⟨m3,hm3⟩,F2.step S3 offC (foot fC),L2.nJ,L2.nD,L2.nC⟩
  have S13:=(S1.trans (Sn.weaken inJ)).trans (S3.weaken inC)
  clear hm1 Fc L2 I2 I1 L1 kJ k3 Sn S3 F2 offJ offC it2 ru sb S1
  refine wpAny_mono (Qr Hc hif hA I3 F3 h1) ?_ fun _ _ f=>f.elim
  refine fun ok s4 z1=>oEEAA z1 fun ρ4 st4 q4 S4 I4=>?_
  have L4:=L3.step0 S4
  have F4:=F3.step0 S4
  cases ok with
  | false=>exact ⟨_,hm.1,j+1,ρ4,st4,out,ys,hm.2,S13.trans S4.weak,I4,q4.1,L4,q4.2⟩
  | true =>
   refine wpAny_mono (He elt' scope.names _ A _ σ' ρ4 st4 s4 _ he hA I4 F4 q4) ?_ fun _ _ f=>f.elim
   refine fun w s5 z1=>oEEEAAA z1 fun ρ5 st5 yv z2 S5 I5 rw5=>?_;obtain ⟨q5,q6,q7⟩:=z2
   have L5:=L4.step0 S5
   refine wpAny_list_append_plain L5.lst (fun h6 D6 sb6=>?_) (by rw [List.size_toArray,L5.r.length];simp only [sizeLine];omega)
   have offD:=TV L5.lst
   have S6:Step [D] ρ5 s5 ρ5 { s5 with heap:=h6 }:=Step.but (tk:=s5.toks) sb6.extBut (Nat.le_of_eq sb6.1.symm)
   have k6:=S6.kept offD
   refine oE (L5.ns) fun m5 hm5=>?_
   exact ⟨_,hm.1,j+1,ρ5,st5,out++[yv],ys++[w],hm.2,((S13.trans S4.weak).trans S5.weak).trans (S6.weaken inD),I5.but sb6.extBut k6 L5.nD bD (Nat.le_of_eq sb6.1.symm),q5,
    ⟨L5.it.keep k6 fun o e=>(sb6.2 J hJD).trans e,by simpa using D6,AQ.keep k6 _ _ (L5.r.append (AQ.cons rw5 AQ.nil)),⟨m5,hm5.sameBut sb6 (Ne.symm hDC)⟩,L5.F.step S6 offD (foot fD),L5.nJ,L5.nD,L5.nC⟩,q7⟩
 ·rw [List.drop_eq_nil_iff.mpr (List.getElem?_eq_none_iff.mp hn)] at h1
  have Sn:Step [J] ρ1 s1 ρ1 { s1 with heap:=h2 }:=Step.but (tk:=s1.toks) he2 hz
  have kJ:=Sn.kept (GO L1.it)
  refine oE (L1.ns) fun m1 hm1=>?_
  exact hQ ρ1 st1 out ys { s1 with heap:=h2 } h1 (S1.trans (Sn.weaken inJ)) (I1.but he2 kJ L1.nJ bJ hz) (PlainList.at' L1.lst fun o e=>he2 D o (Ne.symm hJD) e) (AQ.keep kJ _ _ L1.r) ⟨m1,LL hm1 fun o e=>he2 Cc o (Ne.symm hJC) e⟩
end
end Mine
end
section
namespace Mine
open PySem PySem.W PyProof.Rows PySem.Spec
open scoped Classical
section
variable {c:Cx} {x:Tx} {Z:GA} {C:Ac} {n:Nat}
theorem TY {e:Expr} {env:Env} (h:HE e=false) (v:Value):foldedSetIterable e env v=pure v:=by
 cases e<;>first | rfl | exact nT h
theorem Kg {elt it cond:PE} {elt' t' it':Expr} {ifs:List Expr} {t:PT} {scope:Scope} {pos pos':Pos} {tn:List (Str×Nat)} {N:List (Str×NameKind)} {Γ:List (Str×Nat)} {A:Around} {env:Env} {σ:Lo} {ρ:List Addr} {st:St} {s:Shared}
  {use:Option (Value→Sem Unit)} {QQ:Value→Shared→Prop} {Q:List PV→St→Prop} (Hi:SE c x Z C n it) (He:SE c x Z C n elt) (Hc:ST c x Z C n cond) (hset:HE it'=false) (hi:Aq Z it N Γ it'=true) (ht:Tn t t' tn) (S:IM N Γ scope tn)
  (he:Aq Z elt scope.names (tn++Ay scope.names Γ) elt'=true) (hif:UW Z cond scope.names (tn++Ay scope.names Γ) ifs=true) (hA:Ok A n) (I:Inv c ρ st s.heap) (F:FR c N Γ env s.heap ρ σ)
  (h:W x C it σ st fun v st=>∃ its,C2 st v its∧Gd (W x C elt) (T x C cond (W x C cond)) t v its σ its [] st Q)
  (hQ:∀ ρ' st' out D ys Cc m' s',Q out st'→Step [] ρ s ρ' s'→Inv c ρ' st' s'.heap→s'.heap.PlainList D (List.toArray ys)→AQ c s'.heap ρ' out ys→s'.heap.Ns Cc m'→s.heap.objs.size≤D→s.heap.objs.size≤Cc→D≠Cc→D∉ρ'→Cc∉ρ' →
   compPost c.m A CG use QQ (.ref D) Cc (.ok .next) s') :
  wpAny c.m A (comprehension (.ListComp elt' [⟨t',it',ifs,0⟩] scope pos) scope env pos' (newList []) false (eval it' env) use) QQ CG s:=by
 have hclos:closureFor scope env=pure (B1 env scope.names []):=WN fun p hp e=>(F.ck _ (S.free p hp e)).2
 refine wpAny_comprehension_free (g:=⟨t',it',ifs,0⟩) (gs:=[]) rfl (TY hset) hclos S.kind (fun p hp e=>by rw [S.once p hp,e]) (wpAny_mono (Hi it' N Γ A env σ ρ st s _ hi hA I F h) ?_ fun _ _ f=>f.elim)
 refine fun u s1 z2=>oEEEAAA z2 fun ρ1 st1 v z3 S1 I1 r1=>?_;obtain ⟨its,hits,q⟩:=z3
 have F1:=F.step0 S1
 refine IZ (n:=0) I1 r1 hits fun o hof hct hcr it1=>?_
 refine wpAny_newObj_type (wpAny_newFunctionEnv S.nocell (fun y hy=>nL hy) (fun h₁ hns₁ hsb₁=>?_) S.kind)
 dsimp only at hns₁ hsb₁ ⊢
 generalize hH1:s1.heap.push o=H1 at it1 hns₁ hsb₁ ⊢
 have a1:s1.heap.objs.size<H1.objs.size:=by rw [←hH1,Heap.size_push];exact Nat.lt_succ_self _
 have k1:∀ b o,s1.heap.get? b=some o→H1.get? b=some o:=fun b o' e=>by rw [←hH1];exact Heap.get?_push_of_some _ e
 clear hH1
 generalize hH2:H1.push { cls:=.type "list",data:=.seq ([]:List Value).toArray }=H2 at hns₁ hsb₁ ⊢
 have a2:H1.objs.size<H2.objs.size:=by rw [←hH2,Heap.size_push];exact Nat.lt_succ_self _
 have k2:∀ b o,H1.get? b=some o→H2.get? b=some o:=fun b o' e=>by rw [←hH2];exact Heap.get?_push_of_some _ e
 have k3:∀ b o,H2.get? b=some o→h₁.get? b=some o:=fun b o' e=>(hsb₁.2 b (Nat.ne_of_lt (Heap.lt_size e))).trans (Heap.get?_push_of_some _ e)
 have D3:h₁.PlainList H1.objs.size ([]:List Value).toArray:=⟨_,k3 _ _ (by rw [←hH2];exact Heap.get?_push_size _ rfl)⟩
 clear hH2
 have kk:∀ b o,s1.heap.get? b=some o→h₁.get? b=some o:=fun b o' e=>k3 _ _ (k2 _ _ (k1 _ _ e))
 have a5:H2.objs.size<h₁.objs.size:=by rw [hsb₁.1,Heap.size_push];exact Nat.lt_succ_self _
 have a3:=Nat.lt_trans a1 a2
 have a4:s1.heap.objs.size≤h₁.objs.size:=Nat.le_of_lt (Nat.lt_trans a3 a5)
 have bs1:=I1.bs
 have no:∀ {b:Addr},s1.heap.objs.size≤b→b∉ρ1:=fun hb q=>Nat.lt_irrefl _ (Nat.lt_of_lt_of_le (I1.lt _ q) hb)
 have noF:∀ {b:Addr},s1.heap.objs.size≤b→b∉A4 env:=fun hb q=>by
  refine oEA (F1.alive q) fun o ho _=>?_
  exact Nat.lt_irrefl _ (Nat.lt_of_lt_of_le (Heap.lt_size ho) hb)
 have L:Loc c N Γ env σ v its s1.heap.objs.size H1.objs.size H2.objs.size 0 [] [] ρ1 { s1 with heap:=h₁,toks:=s1.toks+([]:List (Str×Value)).length } :=
  ⟨it1.keep (Kept.all fun b o e=>k3 _ _ (k2 _ _ e)) fun o e=>k3 _ _ (k2 _ _ e),D3,AQ.nil,⟨_,hns₁⟩,F1.keep (Kept.all kk) (fun b _ o e=>kk b o e) fun b hb=>(F1.out b hb).1,no (Nat.le_refl _),no (Nat.le_of_lt a1),no (Nat.le_of_lt a3)⟩
 have loop:codeAny c.m A (.compLoop (.ListComp elt' [⟨t',it',ifs,0⟩] scope pos) 0 (.ref s1.heap.objs.size) (.ref H1.objs.size) (compEnvC scope (B1 env scope.names []) H2.objs.size env)) (compPost c.m A CG use QQ (.ref H1.objs.size) H2.objs.size)
   { s1 with heap:=h₁,toks:=s1.toks+([]:List (Str×Value)).length }:=by
  refine UO He Hc ht S he hif hA (I1.all kk a4) L (JF hits) (Nat.ne_of_lt a1) (Nat.ne_of_lt a3) (Nat.ne_of_lt a2) (Nat.le_trans bs1 (Nat.le_of_lt a3)) bs1 (Nat.le_trans bs1 (Nat.le_of_lt a1))
   (noF (Nat.le_refl _)) (noF (Nat.le_of_lt a1)) (noF (Nat.le_of_lt a3)) q ?_
  refine fun ρ' st' out ys s' q' S' I' D' r' z2=>oE z2 fun m' m''=>?_
  have S0:Step [s1.heap.objs.size,H1.objs.size,H2.objs.size] ρ1 s1 ρ1 { s1 with heap:=h₁,toks:=s1.toks+([]:List (Str×Value)).length }:=Step.grow kk a4
  have S2:=(S0.trans S').drop fun b hb=>(mC hb).elim (fun e=>Nat.le_of_eq e.symm) fun hb=>(mC hb).elim (fun e=>e▸Nat.le_of_lt a1) fun hb=>List.mem_singleton.mp hb▸Nat.le_of_lt a3
  have fresh:∀ {b:Addr},s1.heap.objs.size≤b→b<h₁.objs.size→b∉ρ':=fun h1 h2 q=>(S'.new _ q).elim (no h1) fun h=>Nat.lt_irrefl _ (Nat.lt_of_lt_of_le h2 h)
  exact hQ ρ' st' out _ ys _ m' s' q' (S1.trans S2) I' D' r' m'' (Nat.le_trans S1.size (Nat.le_of_lt a1)) (Nat.le_trans S1.size (Nat.le_of_lt a3)) (Nat.ne_of_lt a2) (fresh (Nat.le_of_lt a1) (Nat.lt_trans a2 a5)) (fresh (Nat.le_of_lt a3) a5)
 exact codeAny_compStart_list loop (Me (s:={ s1 with heap:=h₁,toks:=s1.toks+([]:List (Str×Value)).length }) L.it loop)
theorem QF {ρ ρ':List Addr} {st':St} {s s':Shared} {out:List PV} {ys:List Value} {D:Addr} {h':Heap} {tk:Nat} (hB:c.B.objs.size≤s.heap.objs.size) (S:Step [] ρ s ρ' s') (I:Inv c ρ' st' h') (hk:∀ b o,s'.heap.get? b=some o→s.heap.objs.size≤b∨h'.get? b=some o) (hD:h'.PlainList D (List.toArray ys)) (r:AQ c h' ρ' out ys)
  (hge:s.heap.objs.size≤D) (nD:D∉ρ') (hz:s'.heap.objs.size≤h'.objs.size) :
  Inv c (ρ'++[D]) (st'++[.list out]) h'∧Kept ρ' h' (ρ'++[D]) h'∧Step [] ρ s (ρ'++[D]) { s' with heap:=h',toks:=tk }∧RV c h' (ρ'++[D]) (.obj st'.length) (.ref D):=by
 obtain ⟨e,hD⟩:=hD
 have k2:Kept ρ' h' (ρ'++[D]) h':=by
  refine ⟨fun i b e=>by rw [List.getElem?_append_left (gI e).1];exact e,fun b items t n=>⟨t,fun q=>?_⟩,fun b lo hi t u x r n=>⟨r,fun q=>?_⟩⟩
  ·rcases mA q with q | q
   ·exact n q
   ·rw [List.mem_singleton] at q;subst q
    refine oEAAE t fun o ho hc m hd=>?_
    rw [hD] at ho;obtain rfl:=sI ho
    simp at hc
  ·rcases mA q with q | q
   ·exact n q
   ·rw [List.mem_singleton] at q;subst q
    exact absurd (hD.symm.trans r) (by simp)
 refine oA (I.add (po:=.list out) nD (Nat.le_trans hB hge) (Heap.lt_size hD) (fun o ho=>by rw [hD] at ho;obtain rfl:=sI ho;exact ⟨fun _ _ _ q=>by simp at q,fun _ q=>by cases q⟩) ⟨ys,⟨e,hD⟩,AQ.keep k2 _ _ r⟩) fun I2 _=>?_
 refine ⟨I2,k2,⟨?_,fun b q=>?_,fun b o e1 n f=>?_,Nat.le_trans S.size hz,S.gens,S.drawn,S.os⟩,?_⟩
 ·exact S.pre.trans (List.prefix_append _ _)
 ·rcases mA q with q | q
  ·exact S.new b q
  ·rw [List.mem_singleton.mp q];exact .inr hge
 ·rcases hk b o (S.keep b o e1 n f) with h | h
  ·exact absurd (Nat.lt_of_lt_of_le (Heap.lt_size e1) h) (Nat.lt_irrefl _)
  ·exact h
 ·exact G6 (by rw [←I.len];exact List.getElem?_concat_length)
theorem Su {elt it cond:PE} {t:PT} (Hi:SE c x Z C n it) (He:SE c x Z C n elt) (Hc:ST c x Z C n cond):SE c x Z C n (.comp elt t it cond):=by
 intro e' N Γ A env σ ρ st s Q hc hA I F h
 refine oEEEEA (Fg hc) fun elt' gs scope pos z0 h1=>?_;subst z0
 refine oEA (EG h1) fun z0 z1 h2=>?_;obtain ⟨t',it',ifs,asy⟩:=z0;subst z1
 refine oEA (Yp (AC h2).2) fun tn ht h3=>?_
 obtain rfl:asy=0:=of_decide_eq_true (AC (AC (AC h2).1).1).1
 rw [eval_ListComp]
 refine Kg (Q:=fun out st=>Q (PV.obj st.length) (st++[PO.list out])) Hi He Hc (DJ (AC (AC (AC h2).1).1).2) (AC (AC h2).1).2 ht (Pw (AC (AC h3).1).1) (AC (AC h3).1).2 (AC h3).2 hA I F h ?_
 intro ρ' st' out D ys Cc m' s' q S' I' D' r' m'' g1 g2 g3 g4 g5
 refine ⟨m',m'',fun h' sb=>?_⟩
 have hCo:Off s'.heap [Cc]:=fun b hb o ho=>by
  rw [List.mem_singleton] at hb;subst hb
  refine oEEEAA m'' fun o' es ep ho' hd' _=>?_
  rw [ho] at ho';obtain rfl:=sI ho'
  exact ⟨fun _ _ q=>absurd (hd'.symm.trans q) nofun,fun _ q=>absurd (hd'.symm.trans q) nofun⟩
 have kk:=Ej (ρ:=ρ') sb.extBut hCo
 refine RF (QF (s:=s) (s':=s') (tk:=s'.toks) I.bs S' (I'.but sb.extBut kk g5 (Nat.le_trans I.bs g2) (Nat.le_of_eq sb.1.symm)) (fun b o e=>by
  by_cases hb:b=Cc
  ·exact .inl (hb▸g2)
  ·exact .inr ((sb.2 b hb).trans e)) (PlainList.at' D' fun o e=>(sb.2 D g3).trans e) (AQ.keep kk _ _ r') g1 g4 (Nat.le_of_eq sb.1.symm)) fun I3 _ S3 r3=>?_
 exact ⟨ρ'++[D],st'++[.list out],.obj st'.length,q,S3,I3,r3⟩
section
variable {e:Expr}
theorem TL {k} (h:C7 e k=true):CE e:=by refine oEEA (Bn h) fun _ _ z0 _=>?_;subst z0;exact fun _ _=>rfl
theorem LJ {k} (h:Cb e k=true):CE e:=by refine oEEEA (Cf h) fun _ _ _ z0 _=>?_;subst z0;exact fun _ _=>rfl
theorem Vw {k} (h:EY e k=true):CE e:=by refine oEEEA (C6 h) fun _ _ _ z0 _=>?_;subst z0;exact fun _ _=>rfl
theorem Xp {k} (h:SH e k=true):CE e:=by refine oEEA (SG h) fun _ _ z0 _=>?_;subst z0;exact fun _ _=>rfl
theorem Xq {k} (h:SL e k=true):CE e:=by refine oEEEA (SJ h) fun _ _ _ z0 _=>?_;subst z0;exact fun _ _=>rfl
theorem Xu {k} (h:Cg e k=true):CE e:=by refine oEEEA (C8 h) fun _ _ _ z0 _=>?_;subst z0;exact fun _ _=>rfl
theorem P4 {k} (h:Bd e k=true):CE e:=by refine oEEEA (Bh h) fun _ _ _ z0 _=>?_;subst z0;exact fun _ _=>rfl
theorem TM {k} (h:Pp e k=true):CE e:=by refine oEEEEA (N8 h) fun _ _ _ _ z0 _=>?_;subst z0;exact fun _ _=>rfl
theorem ZC {k} (h:N9 e k=true):CE e:=by refine oEEEEA (Pr h) fun _ _ _ _ z0 _=>?_;subst z0;exact fun _ _=>rfl
theorem Xr {k} (h:G4 e k=true):CE e:=by refine oEEEEA (Fg h) fun _ _ _ _ z0 _=>?_;subst z0;exact fun _ _=>rfl
theorem ZB {i:Int} {N:List (Str×NameKind)} {Γ:List (Str×Nat)} (h:Aq Z (.int i) N Γ e=true):CE e:=by
 rcases QU h with ⟨a,b,rfl⟩ | ⟨j,a,b,p,rfl,rfl⟩<;>exact fun _ _=>rfl
end
noncomputable abbrev AAJ (c:Cx) (x:Tx) (Z:GA) (C:Ac) (n:Nat) (e:PE):Prop:=SE c x Z C n e∧ST c x Z C n e
noncomputable abbrev AAI (c:Cx) (x:Tx) (Z:GA) (C:Ac) (n:Nat) (es:List PE):Prop:=WY c x Z C n es∧SBs c x Z C n es∧STs c x Z C n es
theorem both {e:PE} (hT:T x C e (W x C e)=fun σ st Q=>W x C e σ st fun v st=>∃ b,BP st v b∧Q b st) (H:SE c x Z C n e) (hp:∀ N Γ e',Aq Z e N Γ e'=true→CE e'):AAJ c x Z C n e:=⟨H,Sl H hT hp⟩
mutual
theorem AL (O:GB c x) (G:H0 c x Z) (HC:E2 c C n) (hC:∀ g xs st Q,C g xs st Q→(∃ i,g=.fn i)∨∃ i,g=.cls i):∀ e:PE,AAJ c x Z C n e
 | .loc i=>both rfl (Vl i) fun _ _ _ h=>TL h
 | .int i=>both rfl (Vn i) fun _ _ _ h=>ZB h
 | .str y=>both rfl (Vi y) fun _ _ _ h=>LJ h
 | .bool b=>both rfl (Sw b) fun _ _ _ h=>LJ h
 | .none=>both rfl So fun _ _ _ h=>LJ h
 | .gl g=>both rfl (Xh G g) fun _ _ _ h=>TL h
 | .tup es=>both rfl (Vg (Cj O G HC hC es).1) fun _ _ _ h=>Vw (AC h).2
 | .list es=>both rfl (Sr (Cj O G HC hC es).1) fun _ _ _ h=>Xp (AC h).2
 | .dict es=>both rfl (Ss G es) fun _ _ _ h=>Xq (AC h).2
 | .attr e a=>both rfl (Sx O G (AL O G HC hC e).1) fun _ _ _ h=>Xu h
 | .sub e i=>both rfl (Vh (AL O G HC hC e).1 (AL O G HC hC i).1) fun _ _ _ h=>P4 h
 | .slTo e i=>both rfl (Sm (AL O G HC hC e).1 (AL O G HC hC i).1) fun _ _ _ h=>P4 h
 | .slFrom e i=>both rfl (ON (AL O G HC hC e).1 (AL O G HC hC i).1) fun _ _ _ h=>P4 h
 | .rev e=>both rfl (Vj (AL O G HC hC e).1) fun _ _ _ h=>P4 h
 | .call f as=>both rfl (Sv O HC hC (AL O G HC hC f).1 (Cj O G HC hC as).1) fun _ _ _ h=>TM h
 | .meth f m as=>both rfl (Sq O G HC (AL O G HC hC f).1 (Cj O G HC hC as).1) fun _ _ _ h=>TM h
 | .bin op a b=>both rfl (Vq (AL O G HC hC a).1 (AL O G HC hC b).1) fun _ _ _ h=>ZC h
 | .cmp op a b=>Vo (AL O G HC hC a).1 (AL O G HC hC b).1
 | .bop op es=>Vp (Cj O G HC hC es).2.1 (Cj O G HC hC es).2.2
 | .not e=>Vk (AL O G HC hC e).1 (AL O G HC hC e).2
 | .ite q a b=>Vm (AL O G HC hC q).2 (AL O G HC hC a).1 (AL O G HC hC b).1 (AL O G HC hC a).2 (AL O G HC hC b).2
 | .comp elt t it cond=>both rfl (Su (AL O G HC hC it).1 (AL O G HC hC elt).1 (AL O G HC hC cond).2) fun _ _ _ h=>Xr h
 | .stuck=>⟨fun _ _ _ _ _ _ _ _ _ _ _ _ _ _ h=>h.elim,fun _ _ _ _ _ _ _ _ _ _ _ _ _ _ h=>h.elim⟩
theorem Cj (O:GB c x) (G:H0 c x Z) (HC:E2 c C n) (hC:∀ g xs st Q,C g xs st Q→(∃ i,g=.fn i)∨∃ i,g=.cls i):∀ es:List PE,AAI c x Z C n es
 | []=>⟨Pv,fun _ _ _ _ _ _ _ _ _ _ _ _ _ _ _ _ h=>h.elim,VZ⟩
 | e::es=>have H:=AL O G HC hC e;have Hs:=Cj O G HC hC es;⟨Ia H.1 Hs.1,by
  cases es with
  | nil=>exact Vr H.1
  | cons e2 es=>exact Sz H.1 Hs.2.1,Sd H.2 Hs.2.2⟩
end
end
end Mine
end
section
namespace Mine
open PySem PySem.W PyProof.Rows PySem.Spec
open scoped Classical
noncomputable def Px (e:Stmt) (k:Option Expr→Pos→Bool):Bool:=if h:e.ctorIdx=3 then Stmt.Return.elim (motive_2:=fun _=>Bool) e h k else false
theorem S8 {e:Stmt} {k:Option Expr→Pos→Bool} (h:Px e k=true):∃ a b,e=.Return a b∧k a b=true :=
 (dB h).elim fun q h=>Stmt.Return.elim (motive_2:=fun e=>∀ q:e.ctorIdx=3,Stmt.Return.elim (motive_2:=fun _=>Bool) e q k=true→∃ a b,e=.Return a b∧k a b=true) e q (fun a b _ h=>⟨a,b,rfl,h⟩) q h
noncomputable def E7 (e:Stmt) (k:List Expr→Expr→Pos→Bool):Bool:=if h:e.ctorIdx=5 then Stmt.Assign.elim (motive_2:=fun _=>Bool) e h k else false
theorem Eb {e:Stmt} {k:List Expr→Expr→Pos→Bool} (h:E7 e k=true):∃ a b c,e=.Assign a b c∧k a b c=true :=
 (dB h).elim fun q h=>Stmt.Assign.elim (motive_2:=fun e=>∀ q:e.ctorIdx=5,Stmt.Assign.elim (motive_2:=fun _=>Bool) e q k=true→∃ a b c,e=.Assign a b c∧k a b c=true) e q (fun a b c _ h=>⟨a,b,c,rfl,h⟩) q h
noncomputable def Ib (e:Stmt) (k:Expr→Operator→Expr→Pos→Bool):Bool:=if h:e.ctorIdx=7 then Stmt.AugAssign.elim (motive_2:=fun _=>Bool) e h k else false
theorem Mj {e:Stmt} {k:Expr→Operator→Expr→Pos→Bool} (h:Ib e k=true):∃ a b c d,e=.AugAssign a b c d∧k a b c d=true :=
 (dB h).elim fun q h=>Stmt.AugAssign.elim (motive_2:=fun e=>∀ q:e.ctorIdx=7,Stmt.AugAssign.elim (motive_2:=fun _=>Bool) e q k=true→∃ a b c d,e=.AugAssign a b c d∧k a b c d=true) e q (fun a b c d _ h=>⟨a,b,c,d,rfl,h⟩) q h
noncomputable def Y3 (e:Stmt) (k:Expr→Expr→List Stmt→List Stmt→Pos→Bool):Bool:=if h:e.ctorIdx=9 then Stmt.For.elim (motive_2:=fun _=>Bool) e h k else false
theorem Y2 {e:Stmt} {k:Expr→Expr→List Stmt→List Stmt→Pos→Bool} (h:Y3 e k=true):∃ a b c d f,e=.For a b c d f∧k a b c d f=true :=
 (dB h).elim fun q h=>Stmt.For.elim (motive_2:=fun e=>∀ q:e.ctorIdx=9,Stmt.For.elim (motive_2:=fun _=>Bool) e q k=true→∃ a b c d f,e=.For a b c d f∧k a b c d f=true) e q (fun a b c d f _ h=>⟨a,b,c,d,f,rfl,h⟩) q h
noncomputable def S7 (e:Stmt) (k:Expr→List Stmt→List Stmt→Pos→Bool):Bool:=if h:e.ctorIdx=11 then Stmt.While.elim (motive_2:=fun _=>Bool) e h k else false
theorem Vs {e:Stmt} {k:Expr→List Stmt→List Stmt→Pos→Bool} (h:S7 e k=true):∃ a b c d,e=.While a b c d∧k a b c d=true :=
 (dB h).elim fun q h=>Stmt.While.elim (motive_2:=fun e=>∀ q:e.ctorIdx=11,Stmt.While.elim (motive_2:=fun _=>Bool) e q k=true→∃ a b c d,e=.While a b c d∧k a b c d=true) e q (fun a b c d _ h=>⟨a,b,c,d,rfl,h⟩) q h
noncomputable def sIf (e:Stmt) (k:Expr→List Stmt→List Stmt→Pos→Bool):Bool:=if h:e.ctorIdx=12 then Stmt.If.elim (motive_2:=fun _=>Bool) e h k else false
theorem AAd {e:Stmt} {k:Expr→List Stmt→List Stmt→Pos→Bool} (h:sIf e k=true):∃ a b c d,e=.If a b c d∧k a b c d=true :=
 (dB h).elim fun q h=>Stmt.If.elim (motive_2:=fun e=>∀ q:e.ctorIdx=12,Stmt.If.elim (motive_2:=fun _=>Bool) e q k=true→∃ a b c d,e=.If a b c d∧k a b c d=true) e q (fun a b c d _ h=>⟨a,b,c,d,rfl,h⟩) q h
noncomputable def Wm (e:Stmt) (k:Expr→Pos→Bool):Bool:=if h:e.ctorIdx=24 then Stmt.Expr.elim (motive_2:=fun _=>Bool) e h k else false
theorem Xi {e:Stmt} {k:Expr→Pos→Bool} (h:Wm e k=true):∃ a b,e=.Expr a b∧k a b=true :=
 (dB h).elim fun q h=>Stmt.Expr.elim (motive_2:=fun e=>∀ q:e.ctorIdx=24,Stmt.Expr.elim (motive_2:=fun _=>Bool) e q k=true→∃ a b,e=.Expr a b∧k a b=true) e q (fun a b _ h=>⟨a,b,rfl,h⟩) q h
noncomputable def XX {α:Type} (l:List α) (k:α→α→Bool):Bool:=match l with
 | []=>false
 | a::r=>Jo r fun b=>k a b
theorem Wh {α:Type} {l:List α} {k:α→α→Bool} (h:XX l k=true):∃ a b,l=[a,b]∧k a b=true:=by
 cases l with
 | nil=>exact nB h
 | cons a r =>
  refine oEA (EG h) fun b z0 h2=>?_;subst z0
  exact ⟨a,b,rfl,h2⟩
noncomputable def Tv (e:Expr):Bool:=e.ctorIdx==25
noncomputable def Dr (e:Expr):Bool:=e.ctorIdx==8||e.ctorIdx==9||e.ctorIdx==10
noncomputable def QK (e:PE):Bool:=e.ctorIdx==21
theorem Tz {e:PE} (h:QK e=true):∃ elt t it cond,e=.comp elt t it cond :=
 PE.comp.elim (motive_1:=fun e=>∃ elt t it cond,e=.comp elt t it cond) e (eq_of_beq h) fun _ _ _ _=>⟨_,_,_,_,rfl⟩
noncomputable def Ek (e:PS):Bool:=e.ctorIdx==11
theorem RX {e:PS} (h:Ek e=true):e=.stuck :=
 PS.stuck.elim (motive_1:=fun e=>e=.stuck) e (eq_of_beq h) rfl
mutual
noncomputable def YS (Z:GA) (N:List (Str×NameKind)) (Γ:List (Str×Nat)):PS→Stmt→Bool
 | .assign i e,p=>E7 p fun ts e' _=>Jo ts (fun t=>C7 t fun y _=>Γ.lookup y==some i)&&(!Dr e'||QK e)&&Aq Z e N Γ e'
 | .assignT l e,p=>E7 p fun ts e' _=>Jo ts (fun t=>EY t fun xs _ _=>Ev Γ l xs)&&!Tv e'&&!Dr e'&&Aq Z e N Γ e'
 | .assign2 i j a b,p=>E7 p fun ts e' _=>Jo ts (fun t=>EY t fun xs _ _=>XX xs fun t1 t2=>C7 t1 fun y p=>C7 t2 fun z q=>Γ.lookup y==some i&&Γ.lookup z==some j&&N.lookup y==some .local&&N.lookup z==some .local&&p.line==q.line&&y != z) &&
   EY e' fun vs _ _=>XX vs fun a' b'=>DC a'&&DC b'&&Aq Z a N Γ a'&&Aq Z b N Γ b'
 | .store o i e,p=>E7 p fun ts e' _=>Jo ts (fun t=>Bd t fun o' i' _=>Aq Z o N Γ o'&&Aq Z i N Γ i')&&!Dr e'&&Aq Z e N Γ e'
 | .setat o a e,p=>E7 p fun ts e' _=>Jo ts (fun t=>Cg t fun o' nm _=>Z.an[a]?==some nm&&Aq Z o N Γ o')&&!Dr e'&&Aq Z e N Γ e'
 | .aug i op e,p=>Ib p fun t op' e' _=>C7 t (fun y _=>Γ.lookup y==some i)&&decide (op=op')&&Aq Z e N Γ e'
 | .ret e,p=>Px p fun o _=>DR o fun e'=>Aq Z e N Γ e'
 | .expr e,p=>Wm p fun e' _=>!Dr e'&&Aq Z e N Γ e'
 | .ite q t f,p=>sIf p fun q' t' f' _=>Aq Z q N Γ q'&&Fa Z N Γ t t'&&Fa Z N Γ f f'
 | .loop t it body,p=>Y3 p fun t' it' body' els _=>els.isEmpty&&UV Γ t t'&&!HE it'&&Aq Z it N Γ it'&&Fa Z N Γ body body'
 | .whl q body,p=>S7 p fun q' body' els _=>els.isEmpty&&Aq Z q N Γ q'&&Fa Z N Γ body body'
 | .stuck,_=>true
noncomputable def Fa (Z:GA) (N:List (Str×NameKind)) (Γ:List (Str×Nat)):List PS→List Stmt→Bool
 | [],l=>l.isEmpty
 | s::r,l=>match l with
  | []=>Ek s
  | s'::r'=>(Ek s&&r.isEmpty)||(YS Z N Γ s s'&&Fa Z N Γ r r')
end
section
variable {c:Cx} {x:Tx} {Z:GA} {C:Ac} {n:Nat}
noncomputable def HO (c:Cx) (N:List (Str×NameKind)) (Γ:List (Str×Nat)) (env:Env) (ρ:List Addr) (s:Shared) (Q:Fl→Lo→St→Prop) (f:Flow) (s':Shared):Prop :=
 ∃ ρ' st' fl σ',Q fl σ' st'∧Step (A4 env) ρ s ρ' s'∧Inv c ρ' st' s'.heap∧FR c N Γ env s'.heap ρ' σ'∧FlR c s'.heap ρ' fl f
theorem HO.mono {N:List (Str×NameKind)} {Γ:List (Str×Nat)} {env:Env} {ρ ρ₁:List Addr} {s s₁ s':Shared} {Q:Fl→Lo→St→Prop} {f:Flow} (S:Step (A4 env) ρ s ρ₁ s₁) (r:HO c N Γ env ρ₁ s₁ Q f s'):HO c N Γ env ρ s Q f s':=by
 refine oEEEEAAAA r fun ρ' st' fl σ' q S' I' F' R'=>?_
 exact ⟨ρ',st',fl,σ',q,S.trans S',I',F',R'⟩
section
variable (c x Z C n)
noncomputable def SX (p:PS):Prop:=∀ (p':Stmt) (N:List (Str×NameKind)) (Γ:List (Str×Nat)) (A:Around) (env:Env) (σ:Lo) (ρ:List Addr) (st:St) (s:Shared) (Q:Fl→Lo→St→Prop),
 YS Z N Γ p p'=true→Ok A n→Inv c ρ st s.heap→FR c N Γ env s.heap ρ σ→X x C p σ st Q→wpAny c.m A (exec p' env) (HO c N Γ env ρ s Q) CG s
noncomputable def WX (ps:List PS):Prop:=∀ (ps':List Stmt) (N:List (Str×NameKind)) (Γ:List (Str×Nat)) (A:Around) (env:Env) (σ:Lo) (ρ:List Addr) (st:St) (s:Shared) (Q:Fl→Lo→St→Prop),
 Fa Z N Γ ps ps'=true→Ok A n→Inv c ρ st s.heap→FR c N Γ env s.heap ρ σ→Xs x C ps σ st Q→wpAny c.m A (execs ps' env) (HO c N Γ env ρ s Q) CG s
end
theorem ID {e':Expr} {t:Option Expr} {l:Nat} {env:Env} (h:Dr e'=false):swapsWith e' t l env=pure false:=by
 cases e'<;>first | rfl | exact nT h
theorem Mi {N:List (Str×NameKind)} {Γ:List (Str×Nat)} {A:Around} {env:Env} {σ:Lo} {ρ ρ':List Addr} {st':St} {s s1:Shared} {Q:Fl→Lo→St→Prop} {y:Str} {i:Nat} {v:PV} {u:Value} (I:Inv c ρ' st' s1.heap) (F:FR c N Γ env s1.heap ρ' σ) (S:Step (A4 env) ρ s ρ' s1) (hy:Γ.lookup y=some i) (r:RV c s1.heap ρ' v u)
  (q:Q .next (σ.set i (some v)) st'):wpAny c.m A (storeName env y u) (fun _=>HO c N Γ env ρ s Q .next) CG s1:=by
 refine F.store hy Uw.all r fun h' tk hk hz kk F'=>?_
 exact ⟨ρ',st',.next,_,q,S.trans ⟨List.prefix_refl _,fun _ q=>.inl q,fun b o e _ nf=>hk b o e nf,Nat.le_of_eq hz,rfl,rfl,rfl⟩,I.fp F (fun _ h=>h) hk (Nat.le_of_eq hz),F',.next⟩
theorem X1 {h:Heap} {a:Addr} {m:Str→Option Value} (x:h.Ns a m):Off h [a]:=fun b hb o ho=>by
 rw [List.mem_singleton] at hb;subst hb
 refine oEEEAA x fun o' es ep ho' hd' _=>?_
 rw [ho] at ho';obtain rfl:=sI ho'
 exact ⟨fun _ _ q=>absurd (hd'.symm.trans q) nofun,fun _ q=>absurd (hd'.symm.trans q) nofun⟩
theorem OM {i:Nat} {e:PE} (H:SE c x Z C n e) (Hcomp:∀ elt t it cond,e=.comp elt t it cond→SE c x Z C n elt∧SE c x Z C n it∧ST c x Z C n cond):SX c x Z C n (.assign i e):=by
 intro p' N Γ A env σ ρ st s Q hc hA I F h
 refine oEEEA (Eb hc) fun ts e' pos z0 hc1=>?_;subst z0
 refine oEA (EG (AC (AC hc1).1).1) fun t1 z0 hc2=>?_;subst z0
 refine oEEA (Bn hc2) fun y p z0 hy=>?_;subst z0
 have hy:=eq_of_beq hy
 have he:=(AC hc1).2
 have usual:swapsWith e' (some (.Name y p)) pos.line env=pure false→wpAny c.m A (exec (.Assign [.Name y p] e' pos) env) (HO c N Γ env ρ s Q) CG s:=fun hs=>by
  refine wpAny_Assign_Name (wpAny_mono (H e' N Γ A env σ ρ st s _ he hA I F h) ?_ fun _ _ f=>f.elim) hs
  refine fun u s1 z2=>oEEEAAA z2 fun ρ' st' v q S I' r=>?_
  exact Mi I' (F.step0 S) S.weak hy r q
 rcases Bool.or_eq_true_iff.mp (AC (AC hc1).1).2 with hcm | hcm
 ·exact usual (ID (DJ hcm))
 ·refine oEEEE (Tz hcm) fun elt t it cond z0=>?_;subst z0
  refine oEEEEA (Fg he) fun elt' gs scope cpos z0 h1=>?_;subst z0
  cases hb:(env.blockKind==.function&&env.kindOf y==some .local&&p.line==cpos.line&&!(scope.names.any fun (n,k)=>n==y&&(k==.local||k==.cell)):Bool) with
  | false=>exact usual (by show (pure _:Sem Bool)=_;rw [←hb];rfl)
  | true =>
   have hs:swapsWith (.ListComp elt' gs scope cpos) (some (.Name y p)) pos.line env=pure true:=by show (pure _:Sem Bool)=_;rw [←hb];rfl
   refine RG (Hcomp elt t it cond rfl) fun H1 H2 H3=>?_
   refine oEA (EG h1) fun z0 z1 h2=>?_;obtain ⟨t',it',ifs,asy⟩:=z0;subst z1
   refine oEA (Yp (AC h2).2) fun tn ht h3=>?_
   obtain rfl:asy=0:=of_decide_eq_true (AC (AC (AC h2).1).1).1
   clear usual H Hcomp hb hc hc1 hc2 he hcm h1
   rw [exec_Assign_Name_used _ _ _ _ hs]
   refine wpAny_bind (wpAny_standAt (wpAny_bind ?_))
   show wpAny _ A (do let _ ←comprehension (.ListComp elt' [⟨t',it',ifs,0⟩] scope cpos) scope env _ (newList []) false (eval it' env) (some (assign (.Name y p) env))) _ _ s
   refine wpAny_bind (wpAny_mono (Kg (use:=some (assign (.Name y p) env)) (QQ:=fun _ s'=>HO c N Γ env ρ s Q .next s') (Q:=fun out st=>Q .next (σ.set i (some (.obj st.length))) (st++[PO.list out])) H2 H1 H3 (DJ (AC (AC (AC h2).1).1).2) (AC (AC h2).1).2 ht (Pw (AC (AC h3).1).1) (AC (AC h3).1).2 (AC h3).2 hA I F h ?_) (fun _ s' hq=>wpAny_pure (wpAny_pure hq)) fun _ _ f=>f)
   intro ρ' st' out D ys Cc m' s' q S' I' D' r' m'' g1 g2 g3 g4 g5
   show wpAny _ A (assign (.Name y p) env (.ref D)) _ _ _
   have F':=F.step0 S'
   have noF:∀ {b:Addr},s.heap.objs.size≤b→b∉A4 env:=fun hb q=>by
    refine oEA (F.alive q) fun o ho _=>?_
    exact Nat.lt_irrefl _ (Nat.lt_of_lt_of_le (Heap.lt_size ho) hb)
   refine RF (QF (s:=s) (s':=s') (tk:=s'.toks) I.bs S' I' (fun b o e=>.inr e) D' r' g1 g4 (Nat.le_refl _)) fun I3 k3 S3 r3=>?_
   have nin:∀ {b:Addr},b∉ρ'→b≠D→b∉ρ'++[D]:=fun h1 h2 q=>(mA q).elim h1 fun q=>h2 (List.mem_singleton.mp q)
   have F3:FR c N Γ env s'.heap (ρ'++[D]) σ:=F'.keep k3 (fun b _ o e=>e) fun b hb=>nin (F'.out b hb).1 fun q=>noF g1 (q▸hb)
   refine wpAny_assign_Name (F3.store hy Uw.all r3 fun h' tk hk hz kk F4=>?_)
   have mC:h'.Ns Cc m':=LL m'' fun o e=>hk Cc o e (noF g2)
   refine ⟨m',mC,fun h'' sb=>?_⟩
   have k5:=Ej (ρ:=ρ'++[D]) sb.extBut (X1 mC)
   have hne:∀ b o,s.heap.get? b=some o→b≠Cc:=fun b o e q=>Nat.lt_irrefl _ (Nat.lt_of_lt_of_le (Heap.lt_size e) (q▸g2))
   exact ⟨ρ'++[D],st'++[.list out],.next,_,q,⟨S3.pre,S3.new,fun b o e nb nf=>(sb.2 b (hne b o e)).trans (hk b o (S'.keep b o e nb (fun q=>nL q)) nf),Nat.le_trans S'.size (Nat.le_of_eq (hz.trans sb.1.symm)),S3.gens,S3.drawn,S3.os⟩,
    (I3.fp F3 (fun _ h=>h) hk (Nat.le_of_eq hz)).but sb.extBut k5 (nin g5 (Ne.symm g3)) (Nat.le_trans I.bs g2) (Nat.le_of_eq sb.1.symm),F4.keep k5 (fun b hb o e=>(sb.2 b (fun q=>noF g2 (q▸hb))).trans e) fun b hb=>(F4.out b hb).1,.next⟩
end
end Mine
end
section
namespace Mine
open PySem PySem.W PyProof.Rows PySem.Spec
open scoped Classical
section
variable {c:Cx} {x:Tx} {Z:GA} {C:Ac} {n:Nat}
theorem Qe {t e':Expr} {pos:Pos} {env:Env} {A:Around} {s:Shared} {P:Flow→Shared→Prop} {E:Value→Shared→Prop} (hs:swapsWithSole [t] e' pos.line env=pure false) (hw:swappedStores [t] e' env=pure none) (e1:(assignEach [t] env).map (·.2)=[assign t env])
  (h:wpAny c.m A (eval e' env) (fun v s₁=>wpAny c.m A (assign t env v) (fun _=>P .next) E s₁) E s):wpAny c.m A (exec (.Assign [t] e' pos) env) P E s:=by
 rw [PyProof.Rows.exec_Assign]
 refine wpAny_bind (wpAny_standAt ?_)
 rw [hs]
 refine wpAny_bind (wpAny_pure ?_)
 rw [if_neg (by decide)]
 refine wpAny_bind (wpAny_mono h (fun v s₁ h₁=>?_) fun _ _ x=>x)
 rw [hw]
 refine wpAny_bind (wpAny_pure ?_)
 rw [e1]
 show wpAny c.m A (do assignAll v [assign t env];pure .next) P E s₁
 exact wpAny_bind (wpAny_mono h₁ (fun _ _ x=>wpAny_pure x) fun _ _ x=>x)
theorem RI {ts:List Expr} {k:Nat} {p:Pos} {e':Expr} {env:Env} (h:Tv e'=false):swappedStores [.Tuple ts k p] e' env=pure none:=by
 cases e'<;>first | rfl | exact nT h
theorem Ij {e' t:Expr} {l:Nat} {env:Env} (h:Dr e'=false):swapsWithSole [t] e' l env=pure false:=ID h
theorem Mf {l:List Nat} {e:PE} (H:SE c x Z C n e):SX c x Z C n (.assignT l e):=by
 intro p' N Γ A env σ ρ st s Q hc hA I F h
 refine oEEEA (Eb hc) fun ts e' pos z0 h1=>?_;subst z0
 refine oEA (EG (AC (AC (AC h1).1).1).1) fun t1 z0 h2=>?_;subst z0
 refine oEEEA (C6 h2) fun xs k p z0 h3=>?_;subst z0
 refine Qe (Ij (DJ (AC (AC h1).1).2)) (RI (DJ (AC (AC (AC h1).1).1).2)) rfl (wpAny_mono (H e' N Γ A env σ ρ st s _ (AC h1).2 hA I F h) ?_ fun _ _ f=>f.elim)
 refine fun u s1 z1=>oEEEAAA z1 fun ρ' st' v z2 S I' r=>?_;obtain ⟨σ',hb,q⟩:=z2
 exact Dg (fp:=A4 env) hA I' (F.step0 S) (t:=.many l) (target:=.Tuple xs k p) h3 (fun _ h=>h) (fun _ _=>Uw.all) r hb fun s' S' I'' F''=>⟨ρ',st',.next,σ',q,S.weak.trans S',I'',F'',.next⟩
theorem Q2 {o i e:PE} (Ho:SE c x Z C n o) (Hi:SE c x Z C n i) (He:SE c x Z C n e):SX c x Z C n (.store o i e):=by
 intro p' N Γ A env σ ρ st s Q hc hA I F h
 refine oEEEA (Eb hc) fun ts e' pos z0 h1=>?_;subst z0
 refine oEA (EG (AC (AC h1).1).1) fun t1 z0 h2=>?_;subst z0
 refine oEEEA (Bh h2) fun o' i' p z0 h3=>?_;subst z0
 refine wpAny_Assign_Subscript (wpAny_mono (He e' N Γ A env σ ρ st s _ (AC h1).2 hA I F h) ?_ fun _ _ f=>f.elim) (ID (DJ (AC (AC h1).1).2))
 refine fun w s1 z1=>oEEEAAA z1 fun ρ1 st1 v q S1 I1 r1=>?_
 refine wpAny_mono (Ho o' N Γ A env σ ρ1 st1 s1 _ (AC h3).1 hA I1 (F.step0 S1) q) ?_ fun _ _ f=>f.elim
 refine fun u s2 z1=>oEEEAAA z1 fun ρ2 st2 b q S2 I2 r2=>?_
 refine wpAny_mono (Hi i' N Γ A env σ ρ2 st2 s2 _ (AC h3).2 hA I2 (F.step0 (S1.trans S2)) q) ?_ fun _ _ f=>f.elim
 refine fun k s3 z1=>oEEEAAA z1 fun ρ3 st3 kv q S3 I3 r3=>?_
 exact MZ hA I3 (RV.keep S3.kept0 _ _ r2) r3 (RV.keep (S2.trans S3).kept0 _ _ r1) q fun s' st' S I' q=>have S':=((S1.trans S2).trans S3).trans S;⟨ρ3,st',.next,σ,q,S'.weak,I',F.step0 S',.next⟩
theorem Q3 (O:GB c x) (G:H0 c x Z) {o e:PE} {a:Nat} (Ho:SE c x Z C n o) (He:SE c x Z C n e):SX c x Z C n (.setat o a e):=by
 intro p' N Γ A env σ ρ st s Q hc hA I F h
 refine oEEEA (Eb hc) fun ts e' pos z0 h1=>?_;subst z0
 refine oEA (EG (AC (AC h1).1).1) fun t1 z0 h2=>?_;subst z0
 refine oEEEA (C8 h2) fun o' nm p z0 h3=>?_;subst z0
 refine Qe (Ij (DJ (AC (AC h1).1).2)) rfl rfl (wpAny_mono (He e' N Γ A env σ ρ st s _ (AC h1).2 hA I F h) ?_ fun _ _ f=>f.elim)
 refine fun w s1 z1=>oEEEAAA z1 fun ρ1 st1 v q S1 I1 r1=>?_
 show wpAny _ A (do let ov ←holding [w] (eval o' env);standAt p.atName;holding [w,ov] (setAttr ov nm w);release [w,ov] []) _ _ _
 refine wpAny_bind (wpAny_holding (wpAny_mono (Ho o' N Γ A env σ ρ1 st1 s1 _ (AC h3).2 hA I1 (F.step0 S1) q) ?_ fun _ _ f=>f.elim))
 refine fun u s2 z1=>oEEEAAA z1 fun ρ2 st2 b q S2 I2 r2=>?_
 refine wpAny_bind (wpAny_standAt (wpAny_bind (wpAny_holding (Mb O I2 r2 (RV.keep S2.kept0 _ _ r1) q (G.an▸eq_of_beq (AC h3).1) fun s' st' S I' q=>?_))))
 have S':=(S1.trans S2).trans S
 exact wpAny_release ⟨ρ2,_,.next,σ,q,S'.weak,I',F.step0 S',.next⟩
theorem Vf {i:Nat} {op:Operator} {e:PE} (He:SE c x Z C n e):SX c x Z C n (.aug i op e):=by
 intro p' N Γ A env σ ρ st s Q hc hA I F h
 refine oEEEEA (Mj hc) fun t1 op' e' pos z0 h1=>?_;subst z0
 refine oEEA (Bn (AC (AC h1).1).1) fun y p z0 hy=>?_;subst z0
 obtain rfl:=of_decide_eq_true (AC (AC h1).1).2
 refine oEA h fun u hv h=>?_
 refine wpAny_AugAssign_Name (F.load (eq_of_beq hy) hv fun w r=>?_)
 obtain ⟨t,rfl⟩:=r
 refine wpAny_mono (He e' N Γ A env σ ρ st s _ (AC h1).2 hA I F h) ?_ fun _ _ f=>f.elim
 refine fun w s1 z1=>oEEEAAA z1 fun ρ1 st1 v z2 S1 I1 z3=>?_;obtain ⟨y',z,rfl,hz,q⟩:=z2;obtain ⟨t',rfl⟩:=z3
 have S2:Step [] ρ s ρ1 { s1 with toks:=s1.toks+1 }:=S1.trans Step.toks
 exact OW hz (Mi (s1:={ s1 with toks:=s1.toks+1 }) I1 (F.step0 S2) S2.weak (eq_of_beq hy) Cl q)
theorem Vd {e:PE} (He:SE c x Z C n e):SX c x Z C n (.ret e):=by
 intro p' N Γ A env σ ρ st s Q hc hA I F h
 refine oEEA (S8 hc) fun o pos z0 h1=>?_;subst z0
 refine oEA (B4 h1) fun e' z0 h2=>?_;subst z0
 refine wpAny_Return_some (wpAny_mono (He e' N Γ A env σ ρ st s _ h2 hA I F h) ?_ fun _ _ f=>f.elim)
 refine fun u s1 z1=>oEEEAAA z1 fun ρ1 st1 v q S1 I1 r1=>?_
 exact ⟨ρ1,st1,.ret v,σ,q,S1.weak,I1,F.step0 S1,.ret r1⟩
theorem Sk {e:PE} (He:SE c x Z C n e):SX c x Z C n (.expr e):=by
 intro p' N Γ A env σ ρ st s Q hc hA I F h
 refine oEEA (Xi hc) fun e' pos z0 h1=>?_;subst z0
 refine wpAny_Expr (wpAny_mono (He e' N Γ A env σ ρ st s _ (AC h1).2 hA I F h) ?_ fun _ _ f=>f.elim) (by unfold interactive;rw [F.kind];rfl) (ID (DJ (AC h1).1))
 refine fun u s1 z1=>oEEEAAA z1 fun ρ1 st1 v z2 S1 I1 r1=>?_;obtain ⟨hv,q⟩:=z2
 have fin:HO c N Γ env ρ s Q .next s1:=⟨ρ1,st1,.next,σ,q,S1.weak,I1,F.step0 S1,.next⟩
 rcases hv with rfl | hi
 ·cases r1;exact fin
 ·cases v with
  | int i=>obtain ⟨t,rfl⟩:=r1;exact fin
  | _=>exact nB hi
theorem Ve {q:PE} {t f:List PS} (Hq:ST c x Z C n q) (Ht:WX c x Z C n t) (Hf:WX c x Z C n f):SX c x Z C n (.ite q t f):=by
 intro p' N Γ A env σ ρ st s Q hc hA I F h
 refine oEEEEA (AAd hc) fun q' t' f' pos z0 h1=>?_;subst z0
 refine wpAny_If (wpAny_mono (Hq q' N Γ A env σ ρ st s _ (AC (AC h1).1).1 hA I F h) ?_ fun _ _ f=>f.elim)
 refine fun b s1 z1=>oEEAA z1 fun ρ1 st1 q S1 I1=>?_
 cases b with
 | true=>exact wpAny_mono (Ht t' N Γ A env σ ρ1 st1 s1 _ (AC (AC h1).1).2 hA I1 (F.step0 S1) q) (fun _ _ r=>HO.mono S1.weak r) fun _ _ f=>f
 | false=>exact wpAny_mono (Hf f' N Γ A env σ ρ1 st1 s1 _ (AC h1).2 hA I1 (F.step0 S1) q) (fun _ _ r=>HO.mono S1.weak r) fun _ _ f=>f
theorem VY:WX c x Z C n []:=by
 intro ps' N Γ A env σ ρ st s Q hc hA I F h
 obtain rfl:=List.isEmpty_iff.mp hc
 exact wpAny_pure ⟨ρ,st,.next,σ,h,Step.refl,I,F,.next⟩
theorem Sa {p:PS} {r:List PS} (H:SX c x Z C n p) (Hs:WX c x Z C n r):WX c x Z C n (p::r):=by
 intro ps' N Γ A env σ ρ st s Q hc hA I F h
 by_cases hst:Ek p=true
 ·obtain rfl:=RX hst;exact h.elim
 ·cases ps' with
  | nil=>exact absurd hc hst
  | cons p' r' =>
   have hc:((Ek p&&r.isEmpty)||(YS Z N Γ p p'&&Fa Z N Γ r r'))=true:=hc
   have h1:=AC ((Bool.or_eq_true_iff.mp hc).resolve_left fun q=>hst (AC q).1)
   refine wpAny_execs_cons (wpAny_mono (H p' N Γ A env σ ρ st s _ h1.1 hA I F h) ?_ fun _ _ f=>f.elim)
   refine fun f s1 z1=>oEEEEAAAA z1 fun ρ1 st1 fl σ1 q S1 I1 F1 R1=>?_
   cases R1 with
   | next=>exact wpAny_mono (Hs r' N Γ A env σ1 ρ1 st1 s1 _ h1.2 hA I1 F1 q) (fun _ _ r=>HO.mono S1 r) fun _ _ f=>f
   | ret r=>exact ⟨ρ1,st1,_,σ1,q,S1,I1,F1,.ret r⟩
end
end Mine
end
section
namespace Mine
open PySem PySem.W PyProof.Rows PySem.Spec
open scoped Classical
section
variable {c:Cx} {x:Tx} {Z:GA} {C:Ac} {n:Nat}
theorem Step.drop1 {fp ρ ρ₁:List Addr} {s s₁:Shared} {J:Addr} (S:Step (J::fp) ρ s ρ₁ s₁) (h:s.heap.objs.size≤J):Step fp ρ s ρ₁ s₁ :=
 ⟨S.pre,S.new,fun b o e nb nf=>S.keep b o e nb fun q=>by
  rcases mC q with rfl | q
  ·exact Nat.lt_irrefl _ (Nat.lt_of_lt_of_le (Heap.lt_size e) h)
  ·exact nf q,S.size,S.gens,S.drawn,S.os⟩
noncomputable def AAG (c:Cx) (N:List (Str×NameKind)) (Γ:List (Str×Nat)) (env:Env) (v:PV) (its:List PV) (J:Addr) (ρ:List Addr) (s:Shared) (R:List PV→Lo→St→Prop) (k:Nat) (s':Shared):Prop :=
 ∃ (j:Nat) (ρ':List Addr) (st':St) (σ':Lo),k+j=its.length∧Step (J::A4 env) ρ s ρ' s'∧Inv c ρ' st' s'.heap∧FR c N Γ env s'.heap ρ' σ'∧Bw c s'.heap ρ' J its j v∧same v its st'∧J∉ρ'∧R (its.drop j) σ' st'
noncomputable def XH (c:Cx) (N:List (Str×NameKind)) (Γ:List (Str×Nat)) (env:Env) (A:Around) (ρ:List Addr) (s:Shared) (Q:Fl→Lo→St→Prop) (r:Result) (s':Shared):Prop:=match r with
 | .ok f=>HO c N Γ env ρ s Q f s'
 | .error e=>cameBackBy (model c.prog c.w) A env CG e s'
theorem Sj {t:PT} {it:PE} {body:List PS} (Hi:SE c x Z C n it) (Hb:WX c x Z C n body):SX c x Z C n (.loop t it body):=by
 intro p' N Γ A env σ ρ st s Q hc hA I F h
 refine oEEEEEA (Y2 hc) fun t' it' body' els pos z0 hc1=>?_;subst z0
 refine oA (AC hc1) fun hc2 h4=>?_
 refine oA (AC hc2) fun hc3 h3=>?_
 refine oA (AC hc3) fun hc4 h2=>?_
 have h1:=(AC hc4).2
 obtain rfl:=List.isEmpty_iff.mp (AC hc4).1
 clear hc hc1 hc2 hc3 hc4
 refine wpAny_For (wpAny_mono (Hi it' N Γ A env σ ρ st s _ h3 hA I F h) ?_ fun _ _ f=>f.elim) (TY (DJ h2))
 refine fun u s1 z1=>oEEEAAA z1 fun ρ1 st1 v z2 S1 I1 r1=>?_;obtain ⟨its,hits,q⟩:=z2
 have F1:=F.step0 S1
 refine IZ (n:=0) I1 r1 hits fun o hof hct hcr it1=>?_
 generalize hJ:s1.heap.objs.size=J at it1 ⊢
 have kk:∀ b o',s1.heap.get? b=some o'→(s1.heap.push o).get? b=some o':=fun b o' e=>Heap.get?_push_of_some _ e
 have nJ:J∉ρ1:=fun q=>Nat.lt_irrefl _ (hJ▸I1.lt _ q)
 have fJ:J∉A4 env:=fun q=>by refine oEA (F1.alive q) fun o ho _=>?_;exact Nat.lt_irrefl _ (hJ▸Heap.lt_size ho)
 have foot:∀ b∈A4 env,b∉[J]:=fun b hb q=>fJ (List.mem_singleton.mp q▸hb)
 have bJ:c.B.objs.size≤J:=hJ▸I1.bs
 have inJ:∀ b∈[J],b∈J::A4 env:=fun b q=>List.mem_singleton.mp q▸.head _
 have Sp:Step [] ρ1 s1 ρ1 { s1 with heap:=s1.heap.push o }:=Step.grow (t:=s1.toks) kk (by rw [Heap.size_push];exact Nat.le_succ _)
 refine codeAny_forLoop_any (R:=XH c N Γ env A ρ s Q) (AAG c N Γ env v its J ρ1 s1 fun l σ st=>KW (Xs x C body) t v its l σ st Q) ?_ its.length
  ⟨0,ρ1,st1,σ,rfl,Sp.weak,I1.push o,F1.keep (Kept.all kk) (fun b _ o e=>kk b o e) (fun b hb=>(F1.out b hb).1),it1,JF hits,nJ,q⟩
 refine fun k s2 z1=>oEEEEAAAAAAA z1 fun j ρ2 st2 σ2 hkj S2 I2 F2 it2 same2 nJ2 h2=>?_
 have offJ:=GO it2
 have doneS:∀ {ρ3:List Addr} {s3:Shared},Step (J::A4 env) ρ1 s1 ρ3 s3→Step (A4 env) ρ s ρ3 s3:=fun S=>S1.weak.trans (S.drop1 (Nat.le_of_eq hJ))
 clear Sp kk it1 I1 F1 h q r1 hits
 refine IY hA I2 it2 same2 (fun y hy h3 u tk sb it3 ru=>?_) fun hn h3 he hz=>?_
 ·have hlt:j<its.length:=(gI hy).1
  have hm:its.length-(j+1)<k∧its.length-(j+1)+(j+1)=its.length:=by omega
  rw [show its.drop j=y::its.drop (j+1) by rw [List.drop_eq_getElem_cons hlt,(gI hy).2]] at h2
  refine oEA h2 fun σ3 hb hbody=>?_
  have Sn:Step [J] ρ2 s2 ρ2 { s2 with heap:=h3,toks:=tk }:=Step.but sb.extBut (Nat.le_of_eq sb.1.symm)
  have kJ:=Sn.kept offJ
  have F3:FR c N Γ env h3 ρ2 σ2:=F2.step Sn offJ foot
  refine Kj (JC (JY h1) it3 ?_)
  refine Kj (Dg (fp:=A4 env) (s:={ s2 with heap:=h3,toks:=tk }) hA (I2.but sb.extBut kJ nJ2 bJ (Nat.le_of_eq sb.1.symm)) F3 h1 (fun _ h=>h) (fun _ _=>Uw.all) ru hb fun s4 S4 I4 F4=>?_)
  have it4:Bw c s4.heap ρ2 J its (j+1) v:=it3.keep (S4.kept F3.off) fun o e=>S4.keep J o e nJ2 fJ
  have S24:Step (J::A4 env) ρ1 s1 ρ2 s4:=(S2.trans (Sn.weaken inJ)).trans (S4.weaken fun b hb=>List.mem_cons_of_mem _ hb)
  clear Sn kJ F3 it3 ru sb S4 S2 I2 F2 it2 offJ
  refine Kj (wpAny_mono (Hb body' N Γ A env σ3 ρ2 st2 s4 _ h4 hA I4 F4 hbody) ?_ fun _ _ f=>f.elim)
  refine fun f s5 z1=>oEEEEAAAA z1 fun ρ5 st5 fl σ5 q5 S5 I5 F5 R5=>?_
  refine oEEA (it4.obj) fun oJ _ hoJ _=>?_
  have S15:Step (J::A4 env) ρ1 s1 ρ5 s5:=S24.trans (S5.weaken fun b hb=>List.mem_cons_of_mem _ hb)
  cases R5 with
  | next=>exact ⟨_,hm.1,j+1,ρ5,st5,σ5,hm.2,S15,I5,F5,it4.keep (S5.kept F4.off) (fun o e=>S5.keep J o e nJ2 fJ),q5.1,S5.notin hoJ nJ2,q5.2⟩
  | ret r=>exact ⟨ρ5,st5,_,σ5,q5,doneS S15,I5,F5,.ret r⟩
 ·rw [List.drop_eq_nil_iff.mpr (List.getElem?_eq_none_iff.mp hn)] at h2
  have Sn:Step [J] ρ2 s2 ρ2 { s2 with heap:=h3 }:=Step.but (tk:=s2.toks) he hz
  exact wpAny_pure ⟨ρ2,st2,.next,σ2,h2,doneS (S2.trans (Sn.weaken inJ)),I2.but he (Sn.kept offJ) nJ2 bJ hz,F2.step Sn offJ foot,.next⟩
noncomputable def ABO (c:Cx) (N:List (Str×NameKind)) (Γ:List (Str×Nat)) (env:Env) (ρ:List Addr) (s:Shared) (R:Nat→Lo→St→Prop) (k:Nat) (s':Shared):Prop :=
 ∃ (ρ':List Addr) (st':St) (σ':Lo),Step (A4 env) ρ s ρ' s'∧Inv c ρ' st' s'.heap∧FR c N Γ env s'.heap ρ' σ'∧R k σ' st'
theorem Vc {q:PE} {body:List PS} (Hq:ST c x Z C n q) (Hb:WX c x Z C n body):SX c x Z C n (.whl q body):=by
 intro p' N Γ A env σ ρ st s Q hc hA I F h
 refine oEEEEA (Vs hc) fun q' body' els pos z0 hc1=>?_;subst z0
 refine oA (AC hc1) fun hc2 h2=>?_
 have h1:=(AC hc2).2
 obtain rfl:=List.isEmpty_iff.mp (AC hc2).1
 refine wpAny_While (codeAny_whileLoop (R:=XH c N Γ env A ρ s Q) (ABO c N Γ env ρ s fun k σ st=>QE (T x C q (W x C q)) (Xs x C body) k σ st Q) ?_ 64 ⟨ρ,st,σ,Step.refl,I,F,h⟩)
 refine fun k s1 z1=>oEEEAAA z1 fun ρ1 st1 σ1 S1 I1 F1 h1'=>?_
 cases k with
 | zero=>exact h1'.elim
 | succ k =>
  refine Kj (wpAny_mono (Hq q' N Γ A env σ1 ρ1 st1 s1 _ h1 hA I1 F1 h1') ?_ fun _ _ f=>f.elim)
  refine fun b s2 z1=>oEEAA z1 fun ρ2 st2 q2 S2 I2=>?_
  have F2:=F1.step0 S2
  cases b with
  | true =>
   refine Kj (wpAny_mono (Hb body' N Γ A env σ1 ρ2 st2 s2 _ h2 hA I2 F2 q2) ?_ fun _ _ f=>f.elim)
   refine fun f s3 z1=>oEEEEAAAA z1 fun ρ3 st3 fl σ3 q3 S3 I3 F3 R3=>?_
   cases R3 with
   | next=>exact ⟨k,Nat.lt_succ_self _,ρ3,st3,σ3,(S1.trans S2.weak).trans S3,I3,F3,q3⟩
   | ret r=>exact ⟨ρ3,st3,_,σ3,q3,(S1.trans S2.weak).trans S3,I3,F3,.ret r⟩
  | false=>exact wpAny_pure ⟨ρ2,st2,.next,σ1,q2,S1.trans S2.weak,I2,F2,.next⟩
end
end Mine
end
section
namespace Mine
open PySem PySem.W PyProof.Rows PySem.Spec
open scoped Classical
section
variable {c:Cx} {x:Tx} {Z:GA} {C:Ac} {n:Nat}
theorem Sb {y z:Str} {p q:Pos} {k k':Nat} {tp vp:Pos} {a' b':Expr} {env:Env} (hk:env.scope.kind=.function) (hy:env.kindOf y=some .local) (hz:env.kindOf z=some .local) (hl:p.line=q.line) (hyz:y≠z) (ha:∃ a b c d,a'=.Call a b c d) (hb:∃ a b c d,b'=.Call a b c d) :
  swappedStores [.Tuple [.Name y p,.Name z q] k tp] (.Tuple [a',b'] k' vp) env=pure (some [y,z]):=by
 refine oEEEE ha fun _ _ _ _ z0=>?_;subst z0
 refine oEEEE hb fun _ _ _ _ z0=>?_;subst z0
 have hbk:env.blockKind=.function:=by unfold Env.blockKind;rw [hk];rfl
 have hzy:¬z=y:=fun e=>hyz e.symm
 have hn:∀ g:Expr→Option Str,g (.Name y p)=some y→g (.Name z q)=some z→[Expr.Name y p,.Name z q].filterMap g=[y,z]:=fun g e1 e2=>by rw [List.filterMap_cons_some e1,List.filterMap_cons_some e2];rfl
 refine (if_neg (by rw [hbk];exact Bool.false_ne_true)).trans ((if_neg Bool.false_ne_true).trans ?_)
 dsimp only
 rw [hn _ (if_pos (show (env.kindOf y==some .local&&p.line==p.line)=true by rw [hy];simp)) (if_pos (show (env.kindOf z==some .local&&q.line==p.line)=true by rw [hz,hl];simp))]
 exact (if_neg (by simp [List.eraseDups_cons,hzy])).trans ((if_neg Bool.false_ne_true).trans (if_neg Bool.false_ne_true))
theorem JH {e:Expr} (h:DC e=true):∃ a b c d,e=.Call a b c d :=
 Expr.Call.elim (motive_1:=fun e=>∃ a b c d,e=.Call a b c d) e (eq_of_beq h) fun _ _ _ _=>⟨_,_,_,_,rfl⟩
noncomputable def two (vs:List PV) (k:PV→PV→Prop):Prop:=match vs with
 | [u,v]=>k u v
 | _=>False
theorem AAX {vs:List PV} {k:PV→PV→Prop} (h:two vs k):∃ u v,vs=[u,v]∧k u v:=by
 match vs,h with
 | [u,v],h=>exact ⟨u,v,rfl,h⟩
theorem Mg {i j:Nat} {a b:PE} (Ha:SE c x Z C n a) (Hb:SE c x Z C n b):SX c x Z C n (.assign2 i j a b):=by
 intro p' N Γ A env σ ρ st s Q hc hA I F h
 refine oEEEA (Eb hc) fun ts e' pos z0 hc1=>?_;subst z0
 refine oEA (EG (AC hc1).1) fun t1 z0 hc2=>?_;subst z0
 refine oEEEA (C6 hc2) fun xs k tp z0 hc3=>?_;subst z0
 refine oEEA (Wh hc3) fun t1 t2 z0 hc4=>?_;subst z0
 refine oEEA (Bn hc4) fun y p z0 hc5=>?_;subst z0
 refine oEEA (Bn hc5) fun z q z0 hc6=>?_;subst z0
 refine oEEEA (C6 (AC hc1).2) fun vs k' vp z0 hc7=>?_;subst z0
 refine oEEA (Wh hc7) fun a' b' z0 hc8=>?_;subst z0
 refine oA (AC hc6) fun h7 h6=>?_
 refine oA (AC h7) fun h8 h5=>?_
 refine oA (AC h8) fun h9 h4=>?_
 refine oA (AC h9) fun h10 h3=>?_
 refine oA (AC hc8) fun g1 hb'=>?_
 refine oA (AC g1) fun g2 ha'=>?_
 have hsw:=Sb (k:=k) (k':=k') (tp:=tp) (vp:=vp) F.kind (F.lk y (eq_of_beq h3)) (F.lk z (eq_of_beq h4)) (eq_of_beq h5) (fun e=>absurd (e▸beq_self_eq_true y) (Bool.eq_false_iff.mp (DJ h6))) (JH (AC g2).1) (JH (AC g2).2)
 have star:∀ {e:Expr},DC e=true→FH e=false:=fun h=>by refine oEEEE (JH h) fun _ _ _ _ z0=>?_;subst z0;rfl
 have hcs:Cy Z [a,b] N Γ [a',b']=true:=by
  show (!FH a'&&Aq Z a N Γ a'&&(!FH b'&&Aq Z b N Γ b'&&true))=true
  rw [star (AC g2).1,star (AC g2).2,ha',hb'];rfl
 have hy:=eq_of_beq (AC h10).1
 have hz:=eq_of_beq (AC h10).2
 have hw:Ws x C [a,b] σ st fun vs st=>two vs fun u v=>Q .next ((σ.set j (some v)).set i (some u)) st:=h
 clear hc hc1 hc2 hc3 hc4 hc5 hc6 hc7 hc8 h3 h4 h5 h6 h7 h8 h9 h10 g1 g2 ha' hb' star
 refine Assign_Tuple_swapped (names:=[y,z]) (wpAny_Tuple (wpAny_mono (Ia Ha (Ia Hb Pv) [a',b'] N Γ A env σ ρ st s vp _ hcs hA I F hw) ?_ fun _ _ f=>f.elim)) (Ij rfl) hsw
 refine fun vs s1 z1=>oEEEAAAA z1 fun ρ1 st1 xs q S1 I1 rs hl=>?_
 refine oEEA (AAX q) fun u v z0 q=>?_;subst z0
 refine oEEAA (rs.two) fun w1 w2 z0 r1 r2=>?_;subst z0
 refine ⟨by simp [sizeLine],?_⟩
 have kk:∀ b o,s1.heap.get? b=some o→(s1.heap.push { cls:=.type "tuple",data:=.seq [w1,w2].toArray }).get? b=some o:=fun b o e=>Heap.get?_push_of_some _ e
 have T:(s1.heap.push { cls:=.type "tuple",data:=.seq [w1,w2].toArray }).IsTuple s1.heap.objs.size [w1,w2].toArray:=⟨_,Heap.get?_push_size _ rfl,rfl,_,rfl⟩
 have hsz:s1.heap.objs.size≤(s1.heap.push { cls:=.type "tuple",data:=.seq [w1,w2].toArray }).objs.size:=by rw [Heap.size_push];exact Nat.le_succ _
 generalize s1.heap.push { cls:=.type "tuple",data:=.seq [w1,w2].toArray }=H at kk T hsz ⊢
 refine AY ?_
 show wpAny _ A (unpackItems (.ref s1.heap.objs.size) ([w1,w2]:List Value).toArray.size none) _ _ _
 refine wpAny_unpackItems_tuple (s:={ s1 with heap:=H }) hA.hd T fun h' he hz0=>?_
 have kk':∀ b o,s1.heap.get? b=some o→h'.get? b=some o:=fun b o e=>he b o (Nat.ne_of_lt (Nat.lt_of_lt_of_le (Heap.lt_size e) hsz)) (kk b o e)
 have sz:s1.heap.objs.size≤h'.objs.size:=Nat.le_trans hsz hz0
 have k1:=Kept.all (ρ:=ρ1) kk'
 have F1:=F.step0 S1
 have F2:FR c N Γ env h' ρ1 σ:=F1.keep k1 (fun b _ o e=>kk' b o e) fun b hb=>(F1.out b hb).1
 have S2:Step [] ρ s ρ1 { s1 with heap:=h' }:=S1.trans (Step.grow (t:=s1.toks) kk' sz)
 show wpAny _ A (do holding [w1] (bindName env z w2);(do holding [] (bindName env y w1);pure ())) _ _ _
 refine wpAny_bind (wpAny_holding (wpAny_bindName (F2.store hz Uw.all (RV.keep k1 _ _ r2) fun h3 tk3 hk3 hz3 k3 F3=>?_)))
 refine wpAny_bind (wpAny_holding (wpAny_bindName (F3.store hy Uw.all (RV.keep k3 _ _ (RV.keep k1 _ _ r1)) fun h4 tk4 hk4 hz4 k4 F4=>wpAny_pure ?_)))
 have put:∀ {s':Shared} {h'':Heap} {tk:Nat},(∀ b o,s'.heap.get? b=some o→b∉A4 env→h''.get? b=some o)→s'.heap.objs.size=h''.objs.size→Step (A4 env) ρ1 s' ρ1 { s' with heap:=h'',toks:=tk }:=fun hk hz=>⟨List.prefix_refl _,fun _ q=>.inl q,fun b o e _ nf=>hk b o e nf,Nat.le_of_eq hz,rfl,rfl,rfl⟩
 exact ⟨ρ1,st1,.next,_,q,(S2.weak.trans (put (tk:=tk3) hk3 hz3)).trans (put (s':={ s1 with heap:=h3,toks:=tk3 }) (tk:=tk4) hk4 hz4),((I1.all kk' sz).fp F2 (fun _ h=>h) hk3 (Nat.le_of_eq hz3)).fp F3 (fun _ h=>h) hk4 (Nat.le_of_eq hz4),F4,.next⟩
mutual
theorem Vb (O:GB c x) (G:H0 c x Z) (HC:E2 c C n) (hC:∀ g xs st Q,C g xs st Q→(∃ i,g=.fn i)∨∃ i,g=.cls i):∀ p:PS,SX c x Z C n p
 | .assign i e=>OM (AL O G HC hC e).1 fun elt t it cond _=>⟨(AL O G HC hC elt).1,(AL O G HC hC it).1,(AL O G HC hC cond).2⟩
 | .assignT l e=>Mf (AL O G HC hC e).1
 | .assign2 i j a b=>Mg (AL O G HC hC a).1 (AL O G HC hC b).1
 | .store o i e=>Q2 (AL O G HC hC o).1 (AL O G HC hC i).1 (AL O G HC hC e).1
 | .setat o a e=>Q3 O G (AL O G HC hC o).1 (AL O G HC hC e).1
 | .aug i op e=>Vf (AL O G HC hC e).1
 | .ret e=>Vd (AL O G HC hC e).1
 | .expr e=>Sk (AL O G HC hC e).1
 | .ite q t f=>Ve (AL O G HC hC q).2 (Ci O G HC hC t) (Ci O G HC hC f)
 | .loop t it body=>Sj (AL O G HC hC it).1 (Ci O G HC hC body)
 | .whl q body=>Vc (AL O G HC hC q).2 (Ci O G HC hC body)
 | .stuck=>fun _ _ _ _ _ _ _ _ _ _ _ _ _ _ h=>h.elim
theorem Ci (O:GB c x) (G:H0 c x Z) (HC:E2 c C n) (hC:∀ g xs st Q,C g xs st Q→(∃ i,g=.fn i)∨∃ i,g=.cls i):∀ ps:List PS,WX c x Z C n ps
 | []=>VY
 | p::r=>Sa (Vb O G HC hC p) (Ci O G HC hC r)
end
end
end Mine
end
section
namespace Mine
open PySem PySem.W PyProof.Rows PySem.Spec
open scoped Classical
structure Ql (c:Cx) (Z:GA) (f:Fn) (a:Addr) (o:Obj) (fd:FuncData) (body:List Stmt) (names:List Str) (Γ:List (Str×Nat)) (dv:List Value):Prop where
 at_:c.B.get? a=some o
 data:o.data=.func fd
 code:c.B.CodeRec fd.code fd.qualname
 bdy:fd.body=.stmts body
 clos:fd.closure=[]
 kind:fd.scope.kind=.function
 co:fd.scope.isCoroutine=false
 gen:fd.scope.isGenerator=false
 glob:fd.globals=mainGlobals
 blt:fd.builtins=builtinsNs
 np:names.length=f.np
 ndn:names.Nodup
 par:∀ k y,names[k]?=some y→Γ.lookup y=some k
 nd:(Γ.map (·.2)).Nodup
 once:∀ p∈fd.scope.names,fd.scope.names.lookup p.1=some p.2
 nofree:∀ p∈fd.scope.names,p.2≠.free
 loc:∀ y i,Γ.lookup y=some i→fd.scope.names.lookup y=some .local∨fd.scope.names.lookup y=some .cell
 dflt:AQ c c.B [] f.dflt dv
 bind:∀ (s:Shared) (vs:List Value),c.K.In s.heap→vs.length≤f.np→f.np≤vs.length+f.dflt.length→BindsTo s fd ⟨vs,[]⟩ (names.zip (vs++dv.drop (dv.length-(f.np-vs.length))))
 chk:Fa Z fd.scope.names Γ f.body body=true
section
variable {c:Cx} {x:Tx} {Z:GA} {C:Ac} {n:Nat}
theorem Kk {kindOf:Str→Option NameKind} {y:Str}:∀ {binds:List (Str×Value)} {m:Str→Option Value},y∉binds.map (·.1)→bindL kindOf binds m y=m y
 | [],_,_=>rfl
 | (k,v)::r,m,h=>by
  simp only [List.map_cons,List.mem_cons,not_or] at h
  unfold bindL
  rw [Kk h.2]
  split
  ·simp [h.1]
  ·rfl
theorem Km {kindOf:Str→Option NameKind} {y:Str}:∀ {binds:List (Str×Value)} {m:Str→Option Value},y∉binds.map (·.1)→bindC kindOf binds m y=m y
 | [],_,_=>rfl
 | (k,v)::r,m,h=>by
  simp only [List.map_cons,List.mem_cons,not_or] at h
  unfold bindC
  rw [Km h.2]
  split
  ·rfl
  ·simp [h.1]
theorem Np {kindOf:Str→Option NameKind} {y:Str} {v:Value} (hk:kindOf y=some .local):∀ {names:List Str} {vals:List Value} {k:Nat} {m:Str→Option Value},names.Nodup→names[k]?=some y→vals[k]?=some v→bindL kindOf (names.zip vals) m y=some v
 | [],_,_,_,_,h,_=>by simp at h
 | _::_,[],_,_,_,_,h=>by simp at h
 | z::names,w::vals,0,m,nd,h1,h2=>by
  simp at h1 h2
  subst h1;subst h2
  simp only [List.zip_cons_cons]
  unfold bindL
  rw [if_pos hk,Kk]
  ·simp
  ·intro q
   refine oEA (mQ q) fun p hp e=>?_
   have:=(List.of_mem_zip (a:=p.1) (b:=p.2) hp).1
   rw [e] at this
   exact (List.nodup_cons.mp nd).1 this
 | z::names,w::vals,k+1,m,nd,h1,h2=>by
  simp at h1 h2
  simp only [List.zip_cons_cons]
  unfold bindL
  exact Np hk (List.nodup_cons.mp nd).2 h1 h2
theorem Nq {kindOf:Str→Option NameKind} {y:Str} {v:Value} (hk:kindOf y=some .cell):∀ {names:List Str} {vals:List Value} {k:Nat} {m:Str→Option Value},names.Nodup→names[k]?=some y→vals[k]?=some v→bindC kindOf (names.zip vals) m y=some v
 | [],_,_,_,_,h,_=>by simp at h
 | _::_,[],_,_,_,_,h=>by simp at h
 | z::names,w::vals,0,m,nd,h1,h2=>by
  simp at h1 h2
  subst h1;subst h2
  simp only [List.zip_cons_cons]
  unfold bindC
  rw [if_neg (by rw [hk];simp),Km]
  ·simp
  ·intro q
   refine oEA (mQ q) fun p hp e=>?_
   have:=(List.of_mem_zip (a:=p.1) (b:=p.2) hp).1
   rw [e] at this
   exact (List.nodup_cons.mp nd).1 this
 | z::names,w::vals,k+1,m,nd,h1,h2=>by
  simp at h1 h2
  simp only [List.zip_cons_cons]
  unfold bindC
  exact Nq hk (List.nodup_cons.mp nd).2 h1 h2
theorem Kh {y:Str}:∀ {names:List (Str×NameKind)} {m:Nat} {acc:List (Str×Addr)},(y,NameKind.cell)∈names→((cellsFrom m names acc).lookup y).isSome=true:=by
 have old:∀ (names:List (Str×NameKind)) (m:Nat) (acc:List (Str×Addr)),(acc.lookup y).isSome=true→((cellsFrom m names acc).lookup y).isSome=true:=by
  intro names
  induction names with
  | nil=>intro m acc h;exact h
  | cons p r ih =>
   intro m acc h
   obtain ⟨k,kd⟩:=p
   unfold cellsFrom
   split
   ·refine ih _ _ ?_
    rw [List.lookup_cons]
    cases y==k
    ·exact h
    ·rfl
   ·exact ih _ _ h
 intro names
 induction names with
 | nil=>intro m acc h;cases h
 | cons p r ih =>
  intro m acc h
  obtain ⟨k,kd⟩:=p
  unfold cellsFrom
  rcases mC h with e | h
  ·cases e
   rw [if_pos (by rfl)]
   refine old _ _ _ ?_
   simp
  ·split
   ·exact ih h
   ·exact ih h
theorem Fx {A:Around} {s:Shared} {R:Result→Shared→Prop} {a:Addr} {o:Obj} {fd:FuncData} {body:List Stmt} {vals:List Value} {binds:List (Str×Value)}
  (hroom:A.depth<recursionLimit) (ho:s.heap.get? a=some o) (hdata:o.data=.func fd) (hlim:s.heap.NoLimit) (hcd:s.heap.CodeRec fd.code fd.qualname)
  (hbody:fd.body=.stmts body) (hbind:BindsTo s fd ⟨vals,[]⟩ binds) (hclo:fd.closure=[])
  (hkind:∀ x∈binds,fd.scope.names.lookup x.1=some .local∨(fd.scope.names.lookup x.1=some .cell∧((cellsFrom (s.heap.objs.size+1) fd.scope.names []).lookup x.1).isSome=true))
  (hco:fd.scope.isCoroutine=false) (hgen:fd.scope.isGenerator=false) (hk:fd.scope.kind=.function)
  (h:∀ s₁,InCallC s (callEnvC fd s.heap.objs.size a).locals (bindL (callEnvC fd s.heap.objs.size a).kindOf binds fun _=>none) (callEnvC fd s.heap.objs.size a).cells
    (bindC (callEnvC fd s.heap.objs.size a).kindOf binds fun _=>none) s₁ →
   wpAny c.m (A.deeper (callEnvC fd s.heap.objs.size a)) (execs body (callEnvC fd s.heap.objs.size a)) (fun f s'=>R (.ok (.ret (match f with | .ret v=>v | _=>.none))) s') CG s₁) :
  codeAny c.m A (.call (.ref a) ⟨vals,[]⟩) R s:=by
 refine codeAny_call_function hroom ho hdata hco hgen hbody hcd (hbind _ _ _ _ ?_)
 rw [hclo]
 refine wpAny_newFunctionEnv_cells hk hkind fun env he s' x=>?_
 subst he
 exact ⟨hlim.keeps x.toInCall.keep,codeAny_func (Kj (h s' x))⟩
noncomputable def Wa (c:Cx) (ρ:List Addr) (s:Shared) (Q:PV→St→Prop) (r:Result) (s':Shared):Prop:=match r with
 | .ok (.ret v)=>Res c ρ s Q v s'
 | .ok _=>False
 | .error _=>False
theorem UZ {f:Fn} {a:Addr} {o:Obj} {fd:FuncData} {body:List Stmt} {names:List Str} {Γ:List (Str×Nat)} {dv:List Value} (O:GB c x) (D:Ql c Z f a o fd body names Γ dv) (hlimB:c.B.NoLimit) (H:WX c x Z C n f.body) {A:Around} {xs:List PV} {vs:List Value} {ρ:List Addr} {st:St} {s:Shared} {Q:PV→St→Prop}
  (hA:Ok A (n+1)) (I:Inv c ρ st s.heap) (rs:AQ c s.heap ρ xs vs) (ha:xs.length≤f.np) (hb:f.np≤xs.length+f.dflt.length) (h:Xs x C f.body (f.start xs) st (back Q)) :
  codeAny c.m A (.call (.ref a) ⟨vs,[]⟩) (Wa c ρ s Q) s:=by
 have hl:=rs.length
 have hdl:=D.dflt.length
 have dvB:AQ c s.heap ρ f.dflt dv:=by
  have:∀ (ks:List PV) (vs:List Value),AQ c c.B [] ks vs→AQ c s.heap ρ ks vs:=by
   intro ks
   induction ks with
   | nil=>intro vs r;rw [r.unnil];exact AQ.nil
   | cons k ks ih=>intro vs r;refine oEEAA (r.uncons) fun v r' z0 a b=>?_;subst z0;exact AQ.cons (RV.based I a) (ih _ b)
  exact this _ _ D.dflt
 have rall:AQ c s.heap ρ (xs++f.dflt.drop (f.dflt.length-(f.np-xs.length))) (vs++dv.drop (dv.length-(f.np-vs.length))):=by
  rw [hl,hdl]
  exact rs.append (dvB.drop _)
 have lenAll:(vs++dv.drop (dv.length-(f.np-vs.length))).length=f.np:=by
  rw [List.length_append,List.length_drop,hl,hdl];omega
 generalize hvals:vs++dv.drop (dv.length-(f.np-vs.length))=vals at rall lenAll
 unfold Fn.start at h
 generalize hxs:xs++f.dflt.drop (f.dflt.length-(f.np-xs.length))=xall at rall h
 have lx:xall.length=f.np:=by rw [←rall.length,lenAll]
 have ndn:=D.ndn
 have hbind:=D.bind s vs (I.KI O) (by omega) (by omega)
 rw [hvals] at hbind
 have hcd:s.heap.CodeRec fd.code fd.qualname:=D.code.keeps I.base
 refine (Fx (by have:=hA.depth;omega) (I.base _ _ D.at_) D.data (hlimB.keeps I.base) hcd D.bdy hbind D.clos (fun p hp=>?_) D.co D.gen D.kind fun s1 X=>?_)
 ·have hmem:p.1∈names:=(List.of_mem_zip (a:=p.1) (b:=p.2) hp).1
  refine oE (List.getElem?_of_mem hmem) fun k hk=>?_
  rcases D.loc p.1 k (D.par k p.1 hk) with h | h
  ·exact .inl h
  ·exact .inr ⟨h,Kh (lookup_mem h)⟩
 ·obtain ⟨X0,Xc,Xa,Xb⟩:=X
  have hL:(callEnvC fd s.heap.objs.size a).locals=s.heap.objs.size:=rfl
  have kof:∀ y,(callEnvC fd s.heap.objs.size a).kindOf y=fd.scope.names.lookup y:=fun y=>rfl
  have hk:∀ b o,s.heap.get? b=some o→s1.heap.get? b=some o:=X0.keep
  have hlt:s.heap.objs.size<s1.heap.objs.size:=X0.ns.lt
  have sz:s.heap.objs.size≤s1.heap.objs.size:=Nat.le_of_lt hlt
  refine oEE (X0.same) fun h1 tk1 e1=>?_
  have I1:Inv c ρ st s1.heap:=I.all hk sz
  have S1:Step [] ρ s ρ s1:=by
   subst e1
   exact Step.grow hk sz
  have cellge:∀ y b,(callEnvC fd s.heap.objs.size a).cells.lookup y=some b→s.heap.objs.size<b:=fun y b e=>Xb y b (lookup_mem e)
  have fge:∀ b∈A4 (callEnvC fd s.heap.objs.size a),s.heap.objs.size≤b:=fun b hb=>by
   rcases Lm hb with rfl | ⟨y,_,e⟩
   ·exact Nat.le_refl _
   ·exact Nat.le_of_lt (cellge y b e)
  have hcellof:∀ y,fd.scope.names.lookup y=some .cell→((callEnvC fd s.heap.objs.size a).cells.lookup y).isSome=true:=fun y e=>Kh (lookup_mem e)
  have getσ:∀ (k:Nat) (v:PV),((xall.map some++List.replicate (f.slots-f.np) none)[k]?=some (some v))→k<f.np∧xall[k]?=some v:=fun k v e=>by
   by_cases hk:k<f.np
   ·rw [List.getElem?_append_left (by rw [List.length_map,lx];exact hk),List.getElem?_map] at e
    cases hx:xall[k]? with
    | none=>rw [hx] at e;cases e
    | some w=>rw [hx] at e;cases e;exact ⟨hk,rfl⟩
   ·rw [List.getElem?_append_right (by rw [List.length_map,lx];omega)] at e
    have:=List.mem_of_getElem? e
    rw [List.mem_replicate] at this
    exact absurd this.2 (by simp)
  have atName:∀ (y:Str) (i:Nat) (v:PV),Γ.lookup y=some i→((xall.map some++List.replicate (f.slots-f.np) none)[i]?=some (some v))→names[i]?=some y∧∃ u,vals[i]?=some u∧RV c s.heap ρ v u:=fun y i v hy e=>by
   refine oA (getσ i v e) fun hi hx=>?_
   refine oEA (rall.get hx) fun u hu ru=>?_
   have hin:i<names.length:=by rw [D.np];exact hi
   have h2:=D.par i names[i] (List.getElem?_eq_getElem hin)
   have:=BF D.nd hy h2
   rw [this]
   exact ⟨List.getElem?_eq_getElem hin,u,hu,ru⟩
  have F:FR c fd.scope.names Γ (callEnvC fd s.heap.objs.size a) s1.heap ρ (xall.map some++List.replicate (f.slots-f.np) none):=by
   refine ⟨D.kind,D.glob,D.blt,fun y e=>e,fun y e=>e,fun y e=>?_,fun y i e=>?_,fun y z i e1 e2=>BF D.nd e1 e2,⟨_,X0.ns,fun y i v hy hky hv=>?_⟩,fun y b hky hyb=>?_,fun y z b _ _ e1 e2=>?_,fun b hb=>⟨fun q=>Nat.lt_irrefl _ (Nat.lt_of_lt_of_le (I.lt b q) (fge b hb)),Nat.le_trans I.bs (fge b hb)⟩⟩
   ·rcases e with e | e
    ·exact ⟨e,hcellof y e⟩
    ·exact absurd rfl (D.nofree _ (lookup_mem e))
   ·rcases D.loc y i e with h | h
    ·exact .inl h
    ·exact .inr ⟨h,hcellof y h⟩
   ·refine oAEA (atName y i v hy hv) fun hn u hu ru=>?_
    exact ⟨u,Np hky ndn hn hu,RV.keep (Kept.all hk) _ _ ru⟩
   ·refine ⟨_,Xc y b hyb,fun i v hy hv=>?_⟩
    refine oAEA (atName y i v hy hv) fun hn u hu ru=>?_
    exact ⟨u,Nq hky ndn hn hu,RV.keep (Kept.all hk) _ _ ru⟩
   ·exact name_of_addr Xa (lookup_mem e1) (lookup_mem e2)
  have hA':Ok (A.deeper (callEnvC fd s.heap.objs.size a)) n:=⟨hA.hd,by have:=hA.depth;show A.depth+1+3*n+3<recursionLimit;omega,by have:=hA.units;show A.units+3+10*n+200<cLine;omega⟩
  refine wpAny_mono (H body fd.scope.names Γ _ _ _ ρ st s1 _ D.chk hA' I1 F h) ?_ fun _ _ f=>f.elim
  refine fun fl s2 z1=>oEEEEAAAA z1 fun ρ2 st2 fl' σ2 q S2 I2 F2 R2=>?_
  have S12:Step [] ρ s ρ2 s2:=((S1.weak (fp:=A4 (callEnvC fd s.heap.objs.size a))).trans S2).drop fge
  cases R2 with
  | next=>exact ⟨ρ2,st2,.none,q,S12,I2,GH⟩
  | ret r=>exact ⟨ρ2,st2,_,q,S12,I2,r⟩
end
end Mine
end
section
namespace Mine
open PySem PySem.W PyProof.Rows PySem.Spec
open scoped Classical
structure Uu (c:Cx) (t:Pd) (Z:GA):Prop where
 cx:GB c t.toTx
 gl:H0 c t.toTx Z
 lim:c.B.NoLimit
 fn:∀ i f,t.fn i=some f→∃ a o fd body names Γ dv,c.fnV i=some a∧Ql c Z f a o fd body names Γ dv
 cls:∀ k i,t.init k=some i→∀ Cc,c.clsV k=some Cc→makesIn c.K Cc=true∧∃ fI,c.fnV i=some fI∧findIn c.K (.ref Cc) "__init__"=some (some (.ref fI))∧typeIn c.K (.ref fI)=some (.type "function")
theorem Qm (Cc:Addr) (vs:List Value):(Code.builtin "type.__call__" ⟨.ref Cc::vs,[]⟩).weight=1:=by kernel_rfl
theorem SM (Cc:Addr) (vs:List Value):(Code.builtin "type.__call__" ⟨.ref Cc::vs,[]⟩).cUnits=1:=by kernel_rfl
theorem SN (A:Around) (Cc:Addr) (vs:List Value):(A.under (.builtin "type.__call__" ⟨.ref Cc::vs,[]⟩)).depth≤A.depth+1∧(A.under (.builtin "type.__call__" ⟨.ref Cc::vs,[]⟩)).units≤A.units+4∧(A.under (.builtin "type.__call__" ⟨.ref Cc::vs,[]⟩)).handled=A.handled:=by
 refine ⟨?_,?_,rfl⟩
 ·show A.depth+(Code.builtin "type.__call__" ⟨.ref Cc::vs,[]⟩).weight≤_
  rw [Qm];exact Nat.le_refl _
 ·show A.units+(Code.builtin "type.__call__" ⟨.ref Cc::vs,[]⟩).cUnits≤_
  rw [SM];omega
theorem Ki {t:Pd} {n:Nat} {g:PV} {xs:List PV} {st:St} {Q:PV→St→Prop} (h:Call t n g xs st Q):(∃ i,g=.fn i)∨∃ i,g=.cls i:=by
 cases n with
 | zero=>exact h.elim
 | succ n=>cases h with
  | fn=>exact .inl ⟨_,rfl⟩
  | cls=>exact .inr ⟨_,rfl⟩
theorem YE {c:Cx} {ρ:List Addr} {s:Shared} {Q:PV→St→Prop} {r:Result} {s':Shared} (z:Wa c ρ s Q r s'):∃ v,r=.ok (.ret v)∧Res c ρ s Q v s':=by
 unfold Wa at z
 split at z
 ·exact ⟨_,rfl,z⟩
 ·exact z.elim
 ·exact z.elim
theorem made {c:Cx} {k:Nat} {Cc:Addr} {ρ:List Addr} {st:St} {h:Heap} (I:Inv c ρ st h) (hC:c.clsV k=some Cc) :
  ∃ ρ',ρ'=ρ++[h.objs.size]++[h.objs.size+1]∧ρ'[st.length+1]?=some (h.objs.size+1)∧Inv c ρ' (st++[.attrs [],.inst k st.length]) ((h.push emptyDict).push (instObj Cc h.objs.size))∧Kept ρ h ρ' ((h.push emptyDict).push (instObj Cc h.objs.size)) ∧
   ∀ g d t os,Step [] ρ ⟨h,g,d,t,os⟩ ρ' ⟨(h.push emptyDict).push (instObj Cc h.objs.size),g,d,t,os⟩:=by
 have hx:∀ b o,h.get? b=some o→((h.push emptyDict).push (instObj Cc h.objs.size)).get? b=some o:=fun b o e=>Heap.get?_push_of_some _ (Heap.get?_push_of_some _ e)
 have s1:(h.push emptyDict).objs.size=h.objs.size+1:=Heap.size_push ..
 have s2:h.objs.size≤((h.push emptyDict).push (instObj Cc h.objs.size)).objs.size:=by rw [Heap.size_push,s1];exact Nat.le_add_right _ 2
 have gd:((h.push emptyDict).push (instObj Cc h.objs.size)).get? h.objs.size=some (dictOf [] 0):=Heap.get?_push_of_some _ (Heap.get?_push_size _ rfl)
 have gi:((h.push emptyDict).push (instObj Cc h.objs.size)).get? (h.objs.size+1)=some (instObj Cc h.objs.size):=by
  rw [←s1];exact Heap.get?_push_size _ rfl
 have no:∀ {b:Addr},h.objs.size≤b→b∉ρ:=fun hb q=>Nat.lt_irrefl _ (Nat.lt_of_lt_of_le (I.lt _ q) hb)
 have at0:(ρ++[h.objs.size]++[h.objs.size+1])[st.length]?=some h.objs.size:=by
  rw [←I.len,List.append_assoc,List.getElem?_append_right (Nat.le_refl _),Nat.sub_self];rfl
 have at1:(ρ++[h.objs.size]++[h.objs.size+1])[st.length+1]?=some (h.objs.size+1):=by
  rw [←I.len,List.append_assoc,List.getElem?_append_right (Nat.le_succ _),Nat.succ_sub (Nat.le_refl _),Nat.sub_self];rfl
 have k1:Kept ρ h ρ ((h.push emptyDict).push (instObj Cc h.objs.size)):=Kept.all hx
 refine oA ((I.all hx s2).add (a:=h.objs.size) (po:=.attrs []) (no (Nat.le_refl _)) I.bs (Heap.lt_size gd) (fun o e=>by rw [gd] at e;obtain rfl:=sI e;exact ⟨fun _ _ q=>(nomatch q),fun _ q=>nomatch q⟩) ⟨[],0,gd,rfl⟩) fun I2 k2=>?_
 refine oA (I2.add (a:=h.objs.size+1) (po:=.inst k st.length) (fun q=>(mA q).elim (no (Nat.le_succ _)) fun q=>absurd (List.mem_singleton.mp q) (Nat.succ_ne_self _)) (Nat.le_trans I.bs (Nat.le_succ _)) (Heap.lt_size gi) (fun o e=>by rw [gi] at e;obtain rfl:=sI e;exact ⟨fun _ _ q=>(nomatch q),fun _ q=>nomatch q⟩) ⟨Cc,_,hC,gi,at0⟩) fun I3 k3=>?_
 rw [List.append_assoc st] at I3
 exact ⟨_,rfl,at1,I3,⟨fun i a e=>k3.pre _ _ (k2.pre _ _ (k1.pre _ _ e)),fun a items t n=>have t1:=k1.tup _ _ t n;have t2:=k2.tup _ _ t1.1 t1.2;k3.tup _ _ t2.1 t2.2,
   fun a lo hi t u x r n=>have t1:=k1.rng _ _ _ _ _ _ r n;have t2:=k2.rng _ _ _ _ _ _ t1.1 t1.2;k3.rng _ _ _ _ _ _ t2.1 t2.2⟩,
  fun g d t os=>⟨by rw [List.append_assoc];exact List.prefix_append _ _,fun b q=>(mA q).elim (fun q=>(mA q).imp id fun q=>Nat.le_of_eq (List.mem_singleton.mp q).symm) fun q=>.inr (by rw [List.mem_singleton.mp q];exact Nat.le_succ _),fun b o e _ _=>hx b o e,s2,rfl,rfl,rfl⟩⟩
theorem EB {c:Cx} {t:Pd} {Z:GA} (O:Uu c t Z) (n:Nat):∀ (A:Around) (g:PV) (xs:List PV) (v:Value) (vs:List Value) (ρ:List Addr) (st:St) (s:Shared) (Q:PV→St→Prop),Ok A n→Inv c ρ st s.heap→RV c s.heap ρ g v→AQ c s.heap ρ xs vs →
  Call t n g xs st Q→codeAny c.m A (.call v ⟨vs,[]⟩) (Wa c ρ s Q) s:=by
 induction n with
 | zero=>exact fun _ _ _ _ _ _ _ _ _ _ _ _ _ h=>h.elim
 | succ n ih =>
  intro A g xs v vs ρ st s Q hA I rg rs h
  cases h with
  | @fn i f hf ha hb h =>
   have HC:E2 c (Call t n) n:=fun A g xs v vs ρ st s Q hA I rg rs h=>wpAny_call (codeAny_mono (ih A g xs v vs ρ st s Q hA I rg rs h) fun r s' z=>by
    refine oEA (YE z) fun v z0 z=>?_;subst z0
    exact z)
   refine oEEEEEEEA (O.fn i f hf) fun a o fd body names Γ dv hfa D=>?_
   refine oEA rg fun a' ha' z0=>?_;subst z0
   obtain rfl:=Option.some.inj (hfa.symm.trans ha')
   exact UZ O.cx D O.lim (Ci O.cx O.gl HC (fun _ _ _ _ h=>Ki h) f.body) hA I rs ha hb h
  | @cls k i hi h =>
   refine oEA rg fun Cc hC z0=>?_;subst z0
   refine oAEAA (O.cls k i hi Cc hC) fun hm fI hfI hfind hty=>?_
   have X:=I.KI O.cx
   obtain ⟨h0,g0,d0,t0,os0⟩:=s
   refine oEAAAA (made I hC) fun ρ' _ at1 I3 kall S0=>?_
   refine make_core (makes_of X hm) (looks_findIn X hfind) (fun self=>bind_fn X self hty) (.inl rfl) ?_
   have hu:=SN A Cc vs
   have hA':Ok (A.under (.builtin "type.__call__" ⟨.ref Cc::vs,[]⟩)) n:=⟨hu.2.2.trans hA.hd,by have:=hA.depth;omega,by have:=hA.units;omega⟩
   refine codeAny_mono (ih _ (.fn i) (.obj (st.length+1)::xs) (.ref fI) (.ref (h0.objs.size+1)::vs) ρ' _ ⟨(h0.push emptyDict).push (instObj Cc h0.objs.size),g0,d0,t0,os0⟩ _ hA' I3 (Py hfI)
    (AQ.cons (G6 at1) (AQ.keep kall _ _ rs)) h) ?_
   intro r s' z
   refine oEA (YE z) fun v z0 z=>?_;subst z0
   refine oEEEAAA z fun ρ2 st' pv z0 S I' rv=>?_;obtain ⟨rfl,q⟩:=z0
   exact ⟨rv,ρ2,st',.obj (st.length+1),q,(S0 _ _ _ _).trans S,I',G6 (S.get at1)⟩
end Mine
end
section
namespace Mine
open PySem
noncomputable def Gr:Fn:={ np:=1,dflt:=[],slots:=2,body:=[.setat (.loc 0) 4 (.list []),.setat (.loc 0) 5 (.dict []),.setat (.loc 0) 6 (.list [.none]),.setat (.loc 0) 7 (.list []),.setat (.loc 0) 8 (.list []),.setat (.loc 0) 9 (.list []),.setat (.loc 0) 10 (.dict []),.setat (.loc 0) 11 (.dict []),.setat (.loc 0) 12 (.int 0),.setat (.loc 0) 13 (.int 0),.loop (.one 1) (.gl 0) [.expr (.meth (.loc 0) 2 [.loc 1])]] }
noncomputable def M2:List (Str×Nat):=[((sO "self"),0),((sO "row"),1)]
noncomputable def Gq:Fn:={ np:=2,dflt:=[],slots:=3,body:=[.ite (.cmp .In (.loc 1) (.attr (.loc 0) 5)) [.ret (.sub (.attr (.loc 0) 5) (.loc 1))] [],.assign 2 (.call (.gl 1) [.attr (.loc 0) 4]),.expr (.meth (.attr (.loc 0) 4) 0 [.loc 1]),.store (.attr (.loc 0) 5) (.loc 1) (.loc 2),.ret (.loc 2)] }
noncomputable def QB:List (Str×Nat):=[((sO "self"),0),((sO "row"),1),((sO "t"),2)]
noncomputable def Gs:Fn:={ np:=2,dflt:=[],slots:=2,body:=[.setat (.loc 0) 14 (.loc 1),.setat (.loc 0) 15 (.int 0),.setat (.loc 0) 16 (.gl 2),.setat (.loc 0) 17 (.gl 3),.setat (.loc 0) 18 .none] }
noncomputable def M3:List (Str×Nat):=[((sO "self"),0),((sO "tab"),1)]
noncomputable def HI:Fn:={ np:=2,dflt:=[],slots:=2,body:=[.ret (.loc 1)] }
noncomputable def KT:List (Str×Nat):=[((sO "self"),0),((sO "t"),1)]
noncomputable def Be:Fn:={ np:=3,dflt:=[.int 0],slots:=3,body:=[.ret (.meth (.loc 0) 2 [.tup [.gl 4,.loc 1,.loc 2]])] }
noncomputable def Ob:List (Str×Nat):=[((sO "tab"),0),((sO "text"),1),((sO "fresh"),2)]
noncomputable def Bg:Fn:={ np:=3,dflt:=[.int 0],slots:=3,body:=[.ret (.meth (.loc 0) 2 [.tup [.gl 5,.loc 1,.loc 2]])] }
noncomputable def Od:List (Str×Nat):=[((sO "tab"),0),((sO "n"),1),((sO "fresh"),2)]
noncomputable def BD:Fn:={ np:=3,dflt:=[.int 0],slots:=3,body:=[.ret (.meth (.loc 0) 2 [.tup [.gl 6,.loc 1,.loc 2]])] }
noncomputable def LN:List (Str×Nat):=[((sO "tab"),0),((sO "elem"),1),((sO "ro"),2)]
noncomputable def Er:Fn:={ np:=2,dflt:=[],slots:=4,body:=[.assign 2 (.int (-1)),.loop (.one 3) (.call (.gl 7) [.call (.gl 1) [.loc 0]]) [.ite (.cmp .In (.sub (.sub (.loc 0) (.loc 3)) (.int 1)) (.loc 1)) [.assign 2 (.loc 3)] []],.ret (.loc 2)] }
noncomputable def Hj:List (Str×Nat):=[((sO "elems"),0),((sO "marks"),1),((sO "found"),2),((sO "place"),3)]
noncomputable def B8:Fn:={ np:=2,dflt:=[],slots:=7,body:=[.assign 2 (.call (.gl 8) [.loc 1,.tup [.gl 9]]),.assign 3 (.list []),.loop (.one 4) (.call (.gl 7) [.call (.gl 1) [.loc 1]]) [.assignT [5,6] (.sub (.loc 1) (.loc 4)),.ite (.bop .And [.cmp .Eq (.loc 6) (.gl 10),.cmp .Lt (.loc 4) (.loc 2)]) [.expr (.meth (.loc 3) 0 [.tup [.call (.gl 11) [.loc 0,.loc 5],.gl 9]])] [.expr (.meth (.loc 3) 0 [.tup [.loc 5,.loc 6]])]],.ret (.loc 3)] }
noncomputable def DZ:List (Str×Nat):=[((sO "tab"),0),((sO "elems"),1),((sO "last"),2),((sO "out"),3),((sO "place"),4),((sO "given"),5),((sO "mark"),6)]
noncomputable def Fq:Fn:={ np:=3,dflt:=[],slots:=8,body:=[.assign 3 (.int (-1)),.loop (.one 4) (.call (.gl 7) [.call (.gl 1) [.loc 1]]) [.ite (.bop .And [.cmp .Lt (.loc 3) (.int 0),.cmp .Eq (.sub (.sub (.loc 1) (.loc 4)) (.int 1)) (.gl 12)]) [.assign 3 (.loc 4)] []],.ite (.bop .Or [.cmp .Lt (.loc 3) (.int 0),.cmp .LtE (.loc 2) (.loc 3)]) [.ret (.loc 1)] [],.assign 5 (.list []),.loop (.many [6,7]) .stuck [.expr (.meth (.loc 5) 0 [.ite (.cmp .Eq (.loc 7) (.gl 10)) (.call (.gl 11) [.loc 0,.loc 6]) (.loc 6)])],.ret (.bin .Add (.bin .Add (.slTo (.loc 1) (.loc 3)) (.list [.tup [.call (.gl 13) [.loc 0,.loc 5],.gl 12]])) (.slFrom (.loc 1) (.bin .Add (.loc 2) (.int 1))))] }
noncomputable def Iq:List (Str×Nat):=[((sO "tab"),0),((sO "elems"),1),((sO "last"),2),((sO "first"),3),((sO "place"),4),((sO "held"),5),((sO "given"),6),((sO "mark"),7)]
noncomputable def At:Fn:={ np:=3,dflt:=[.int 0],slots:=7,body:=[.assign 3 (.comp (.tup [.loc 5,.loc 6]) (.many [5,6]) (.loc 1) (.bool true)),.ite (.cmp .Lt (.call (.gl 8) [.loc 3,.tup [.gl 14]]) (.int 0)) [.assign 4 (.call (.gl 8) [.loc 3,.tup [.gl 12,.gl 10]]),.assign 3 (.call (.gl 15) [.loc 0,.call (.gl 16) [.loc 0,.loc 3],.loc 4]),.ite (.bop .And [.cmp .Eq (.call (.gl 1) [.loc 3]) (.int 1),.cmp .Eq (.sub (.sub (.loc 3) (.int 0)) (.int 1)) (.gl 12)]) [.ret (.call (.gl 17) [.loc 0,.sub (.sub (.loc 3) (.int 0)) (.int 0),.loc 2])] []] [],.ret (.meth (.loc 0) 2 [.tup [.gl 18,.call (.gl 19) [.loc 3],.loc 2]])] }
noncomputable def LM:List (Str×Nat):=[((sO "tab"),0),((sO "elems"),1),((sO "ro"),2),((sO "rows"),3),((sO "last"),4)]
noncomputable def Bf:Fn:={ np:=6,dflt:=[.tup [],.int 0],slots:=6,body:=[.ret (.meth (.loc 0) 2 [.tup [.gl 20,.call (.gl 19) [.loc 1],.call (.gl 19) [.loc 2],.loc 3,.loc 4,.loc 5]])] }
noncomputable def Oc:List (Str×Nat):=[((sO "tab"),0),((sO "tparams"),1),((sO "params"),2),((sO "ret"),3),((sO "pred"),4),((sO "flags"),5)]
noncomputable def BB:Fn:={ np:=4,dflt:=[.int (-1),.int (-1)],slots:=5,body:=[.assign 4 (.call (.gl 1) [.attr (.loc 0) 7]),.expr (.meth (.attr (.loc 0) 7) 0 [.loc 2]),.expr (.meth (.attr (.loc 0) 8) 0 [.loc 3]),.expr (.meth (.attr (.loc 0) 9) 0 [.loc 1]),.ret (.meth (.loc 0) 2 [.tup [.gl 21,.loc 4]])] }
noncomputable def Mx:List (Str×Nat):=[((sO "tab"),0),((sO "name"),1),((sO "bound"),2),((sO "default"),3),((sO "pid"),4)]
noncomputable def Fp:Fn:={ np:=2,dflt:=[],slots:=3,body:=[.ite (.cmp .Eq (.loc 1) (.gl 22)) [.ret (.tup [])] [],.assign 2 (.sub (.attr (.loc 0) 4) (.loc 1)),.ite (.cmp .Eq (.sub (.loc 2) (.int 0)) (.gl 23)) [.ret (.sub (.loc 2) (.int 1))] [],.ret (.tup [.loc 1])] }
noncomputable def Io:List (Str×Nat):=[((sO "tab"),0),((sO "t"),1),((sO "row"),2)]
noncomputable def Cq:Fn:={ np:=1,dflt:=[],slots:=2,body:=[.assign 1 (.sub (.loc 0) (.int 0)),.ite (.bop .Or [.cmp .Eq (.loc 1) (.gl 4),.cmp .Eq (.loc 1) (.gl 24)]) [.ret (.gl 25)] [],.ite (.cmp .Eq (.loc 1) (.gl 5)) [.ret (.gl 26)] [],.ite (.cmp .Eq (.loc 1) (.gl 27)) [.ret (.ite .stuck (.gl 25) (.gl 26))] [],.ret (.int (-1))] }
noncomputable def Ee:List (Str×Nat):=[((sO "row"),0),((sO "kind"),1)]
noncomputable def Cs:Fn:={ np:=2,dflt:=[],slots:=3,body:=[.assign 2 (.sub (.attr (.loc 0) 4) (.loc 1)),.ite (.bop .And [.cmp .In (.sub (.loc 2) (.int 0)) (.gl 28),.cmp .Eq (.sub (.loc 2) (.int (-1))) (.int 1)]) [.ret (.meth (.attr (.loc 0) 5) 1 [.bin .Add (.slTo (.loc 2) (.int (-1))) (.tup [.int 0]),.int (-1)])] [],.ret (.int (-1))] }
noncomputable def Eg:List (Str×Nat):=[((sO "tab"),0),((sO "t"),1),((sO "row"),2)]
noncomputable def CY:Fn:={ np:=1,dflt:=[],slots:=1,body:=[.ite (.bop .And [.bop .Or [.cmp .In (.gl 29) (.loc 0),.cmp .In (.gl 30) (.loc 0)],.bop .Or [.cmp .In (.gl 31) (.loc 0),.cmp .In (.gl 32) (.loc 0)]]) [.store (.loc 0) (.gl 29) (.int 1),.store (.loc 0) (.gl 31) (.int 1)] []] }
noncomputable def Ga:List (Str×Nat):=[((sO "got"),0)]
noncomputable def Cr:Fn:={ np:=3,dflt:=[],slots:=3,body:=[.ite (.cmp .In (.call (.gl 33) [.loc 0,.loc 2]) (.loc 1)) [.ret (.bool false)] [],.ret (.cmp .NotIn (.call (.gl 34) [.sub (.attr (.loc 0) 4) (.loc 2)]) (.loc 1))] }
noncomputable def Ef:List (Str×Nat):=[((sO "tab"),0),((sO "got"),1),((sO "t"),2)]
noncomputable def JR:Fn:={ np:=1,dflt:=[],slots:=2,body:=[.loop (.one 1) (.tup [.gl 35,.gl 36,.gl 37]) [.ite (.cmp .In (.loc 1) (.loc 0)) [.ret (.loc 1)] []],.ret (.int (-1))] }
noncomputable def Mw:List (Str×Nat):=[((sO "got"),0),((sO "t"),1)]
noncomputable def Gp:Fn:={ np:=2,dflt:=[],slots:=8,body:=[.assign 2 (.dict []),.loop (.one 3) (.loc 1) [.loop (.one 6) (.call (.gl 38) [.loc 0,.loc 3]) [.store (.loc 2) (.loc 6) (.int 1)]],.assign 4 (.call (.gl 39) [.loc 2]),.ite (.cmp .GtE (.loc 4) (.int 0)) [.ret (.loc 4)] [],.expr (.call (.gl 40) [.loc 2]),.assign 5 (.comp (.loc 7) (.one 7) (.call (.gl 41) [.loc 2]) (.call (.gl 42) [.loc 0,.loc 2,.loc 7])),.ite (.not (.loc 5)) [.ret (.gl 22)] [],.ite (.cmp .Eq (.call (.gl 1) [.loc 5]) (.int 1)) [.ret (.sub (.loc 5) (.int 0))] [],.ite (.cmp .Gt (.call (.gl 1) [.loc 5]) (.gl 43)) [.stuck] [],.ret (.meth (.loc 0) 2 [.tup [.gl 23,.call (.gl 19) [.loc 5]]])] }
noncomputable def P9:List (Str×Nat):=[((sO "tab"),0),((sO "parts"),1),((sO "got"),2),((sO "t"),3),((sO "top"),4),((sO "kept"),5),((sO "part"),6)]
noncomputable def Em:Fn:={ np:=3,dflt:=[],slots:=5,body:=[.assign 3 (.call (.gl 38) [.loc 0,.loc 1]),.ret (.call (.gl 44) [.comp (.cmp .In (.loc 4) (.loc 3)) (.one 4) (.call (.gl 38) [.loc 0,.loc 2]) (.bool true)])] }
noncomputable def HW:List (Str×Nat):=[((sO "tab"),0),((sO "t"),1),((sO "part"),2),((sO "held"),3)]
noncomputable def Et:Fn:={ np:=2,dflt:=[],slots:=2,body:=[.ret (.call (.gl 13) [.loc 0,.tup [.loc 1,.gl 45]])] }
noncomputable def Hl:List (Str×Nat):=[((sO "tab"),0),((sO "t"),1)]
noncomputable def D9:Fn:={ np:=2,dflt:=[],slots:=2,body:=[.ret (.cmp .In (.sub (.sub (.attr (.loc 0) 4) (.loc 1)) (.int 0)) (.gl 46))] }
noncomputable def Gb:List (Str×Nat):=[((sO "tab"),0),((sO "t"),1)]
noncomputable def HH:Fn:={ np:=2,dflt:=[],slots:=2,body:=[.ret (.bop .Or [.cmp .Eq (.loc 1) (.gl 45),.cmp .Eq (.loc 1) (.gl 47),.call (.gl 48) [.loc 0,.loc 1]])] }
noncomputable def KS:List (Str×Nat):=[((sO "tab"),0),((sO "t"),1)]
noncomputable def JV:Fn:={ np:=2,dflt:=[],slots:=5,body:=[.assign 2 (.sub (.attr (.loc 0) 4) (.loc 1)),.assign 3 (.sub (.loc 2) (.int 0)),.ite (.cmp .Eq (.loc 3) (.gl 49)) [.ret (.meth (.gl 50) 1 [.loc 1,.gl 51])] [],.ite (.cmp .Eq (.loc 3) (.gl 52)) [.ret (.gl 53)] [],.ite (.cmp .In (.loc 3) (.gl 54)) [.ret (.gl 55)] [],.ite (.cmp .Eq (.loc 3) (.gl 23)) [.ret .stuck] [],.ite (.cmp .Eq (.loc 3) (.gl 56)) [.ret .stuck] [],.assign 4 (.call (.gl 34) [.loc 2]),.ite (.cmp .Lt (.loc 4) (.int 0)) [.ret (.gl 51)] [],.ret (.ite (.cmp .Eq (.loc 4) (.gl 25)) (.gl 57) (.gl 58))] }
noncomputable def M1:List (Str×Nat):=[((sO "tab"),0),((sO "t"),1),((sO "row"),2),((sO "kind"),3),((sO "whole"),4)]
noncomputable def BR:Fn:={ np:=1,dflt:=[],slots:=1,body:=[.ret (.bop .Or [.cmp .Eq (.loc 0) (.gl 59),.cmp .Eq (.loc 0) (.gl 60),.cmp .Eq (.loc 0) (.gl 61)])] }
noncomputable def CR:List (Str×Nat):=[((sO "fam"),0)]
noncomputable def Cv:Fn:={ np:=4,dflt:=[],slots:=4,body:=[.ite (.bop .And [.cmp .Eq (.loc 2) (.gl 60),.cmp .Eq (.loc 3) (.gl 61)]) [.ret (.gl 62)] [],.ite (.bop .And [.cmp .Eq (.loc 2) (.gl 61),.cmp .Eq (.loc 3) (.gl 60)]) [.ret (.gl 63)] [],.ret (.gl 64)] }
noncomputable def Eh:List (Str×Nat):=[((sO "s"),0),((sO "t"),1),((sO "fs"),2),((sO "ft"),3)]
noncomputable def DM:Fn:={ np:=5,dflt:=[],slots:=5,body:=[.ite (.cmp .NotEq (.loc 3) (.loc 4)) [.ret (.gl 64)] [],.ite (.bop .And [.call (.gl 65) [.loc 0,.loc 1],.call (.gl 65) [.loc 0,.loc 2]]) [.ret (.gl 64)] [],.ite (.bop .Or [.cmp .Eq (.loc 1) (.gl 25),.cmp .Eq (.loc 1) (.gl 26)]) [.ret (.gl 63)] [],.ite (.bop .Or [.cmp .Eq (.loc 2) (.gl 25),.cmp .Eq (.loc 2) (.gl 26)]) [.ret (.gl 62)] [],.ret (.gl 66)] }
noncomputable def FT:List (Str×Nat):=[((sO "tab"),0),((sO "s"),1),((sO "t"),2),((sO "fs"),3),((sO "ft"),4)]
noncomputable def Eo:Fn:={ np:=3,dflt:=[],slots:=5,body:=[.ite (.bop .Or [.cmp .Eq (.loc 1) (.loc 2),.cmp .Eq (.call (.gl 33) [.loc 0,.loc 2]) (.loc 1)]) [.ret (.gl 62)] [],.ite (.cmp .Eq (.call (.gl 33) [.loc 0,.loc 1]) (.loc 2)) [.ret (.gl 63)] [],.assign 3 (.call (.gl 67) [.loc 0,.loc 1]),.assign 4 (.call (.gl 67) [.loc 0,.loc 2]),.ite (.bop .Or [.cmp .Eq (.loc 3) (.gl 51),.cmp .Eq (.loc 4) (.gl 51)]) [.ret (.gl 66)] [],.ite (.bop .Or [.call (.gl 68) [.loc 3],.call (.gl 68) [.loc 4]]) [.ret (.call (.gl 69) [.loc 1,.loc 2,.loc 3,.loc 4])] [],.ite (.bop .Or [.cmp .Eq (.loc 3) (.gl 55),.cmp .Eq (.loc 4) (.gl 55)]) [.ret .stuck] [],.ret (.call (.gl 70) [.loc 0,.loc 1,.loc 2,.loc 3,.loc 4])] }
noncomputable def HX:List (Str×Nat):=[((sO "tab"),0),((sO "s"),1),((sO "t"),2),((sO "fs"),3),((sO "ft"),4)]
noncomputable def JT:Fn:={ np:=3,dflt:=[],slots:=7,body:=[.assign 3 (.list []),.assign 4 (.bool false),.loop (.one 5) (.loc 1) [.assign 6 (.call (.gl 71) [.loc 0,.loc 5,.loc 2]),.ite (.cmp .Eq (.loc 6) (.gl 64)) [.ret .none] [],.ite (.cmp .Eq (.loc 6) (.gl 62)) [.assign 4 (.bool true)] [],.ite (.cmp .NotEq (.loc 6) (.gl 63)) [.expr (.meth (.loc 3) 0 [.loc 5])] []],.ite (.not (.loc 4)) [.expr (.meth (.loc 3) 0 [.loc 2])] [],.ret (.loc 3)] }
noncomputable def Mz:List (Str×Nat):=[((sO "tab"),0),((sO "kept"),1),((sO "t"),2),((sO "out"),3),((sO "held"),4),((sO "one"),5),((sO "case"),6)]
noncomputable def Bu:Fn:={ np:=2,dflt:=[],slots:=4,body:=[.assign 2 (.sub (.attr (.loc 0) 4) (.loc 1)),.ite (.cmp .Eq (.sub (.loc 2) (.int 0)) (.gl 72)) [.assign 3 .stuck,.ite (.bop .And [.cmp .IsNot (.loc 3) .none,.cmp .Eq (.attr (.loc 3) 19) (.gl 73),.cmp .Eq (.attr (.loc 3) 20) (.gl 74)]) [.ret (.tup [.gl 74])] []] [],.ite (.cmp .Eq (.sub (.loc 2) (.int 0)) (.gl 56)) [.ret (.sub (.loc 2) (.int 1))] [],.ite (.cmp .Eq (.sub (.loc 2) (.int 0)) (.gl 75)) [.ret (.tup [.stuck])] [],.ret (.tup [.loc 1])] }
noncomputable def DA:List (Str×Nat):=[((sO "tab"),0),((sO "t"),1),((sO "row"),2),((sO "decl"),3)]
noncomputable def D0:Fn:={ np:=3,dflt:=[],slots:=7,body:=[.assign 3 (.comp (.loc 5) (.one 5) (.call (.gl 76) [.loc 0,.loc 1]) (.bool true)),.loop (.one 4) (.call (.gl 76) [.loc 0,.loc 2]) [.assign 3 (.call (.gl 77) [.loc 0,.loc 3,.loc 4]),.ite (.cmp .Is (.loc 3) .none) [.ret (.gl 22)] []],.ite (.cmp .Eq (.call (.gl 1) [.loc 3]) (.int 1)) [.ret (.sub (.loc 3) (.int 0))] [],.ret (.meth (.loc 0) 2 [.tup [.gl 56,.call (.gl 19) [.comp .stuck (.one 6) (.loc 3) (.bool true)]]])] }
noncomputable def GY:List (Str×Nat):=[((sO "tab"),0),((sO "s"),1),((sO "t"),2),((sO "kept"),3),((sO "one"),4)]
noncomputable def Cu:Fn:={ np:=3,dflt:=[],slots:=10,body:=[.ite (.bop .Or [.cmp .Eq (.loc 1) (.loc 2),.cmp .Eq (.loc 2) (.gl 37)]) [.ret (.loc 1)] [],.ite (.cmp .Eq (.loc 1) (.gl 37)) [.ret (.loc 2)] [],.assign 3 (.dict []),.assign2 6 7 (.call (.gl 38) [.loc 0,.loc 1]) (.call (.gl 38) [.loc 0,.loc 2]),.assign 4 (.bop .And [.cmp .Gt (.call (.gl 1) [.loc 6]) (.int 1),.cmp .Gt (.call (.gl 1) [.loc 7]) (.int 1)]),.loop (.one 5) (.loc 6) [.loop (.one 8) (.loc 7) [.assign 9 (.call (.gl 78) [.loc 0,.loc 5,.loc 8]),.ite (.cmp .NotEq (.loc 9) (.gl 22)) [.store (.loc 3) (.loc 9) (.int 1)] [],.ite (.bop .And [.loc 4,.cmp .Gt (.call (.gl 1) [.loc 3]) (.gl 79)]) [.stuck] []]],.ret (.call (.gl 13) [.loc 0,.call (.gl 41) [.loc 3]])] }
noncomputable def Ir:List (Str×Nat):=[((sO "tab"),0),((sO "s"),1),((sO "t"),2),((sO "found"),3),((sO "crossed"),4),((sO "one"),5),((sO "left"),6),((sO "right"),7),((sO "other"),8),((sO "met"),9)]
noncomputable def IG:Fn:={ np:=2,dflt:=[],slots:=5,body:=[.loop (.one 2) (.tup [.gl 22,.gl 35,.gl 36]) [.ite (.cmp .In (.loc 2) (.loc 1)) [.ret (.loc 2)] []],.assign 3 (.gl 37),.loop (.one 4) (.call (.gl 7) [.call (.gl 1) [.loc 1]]) [.ite (.cmp .NotIn (.sub (.loc 1) (.loc 4)) (.slTo (.loc 1) (.loc 4))) [.assign 3 (.call (.gl 80) [.loc 0,.loc 3,.sub (.loc 1) (.loc 4)])] []],.ret (.loc 3)] }
noncomputable def QA:List (Str×Nat):=[((sO "tab"),0),((sO "parts"),1),((sO "t"),2),((sO "out"),3),((sO "place"),4)]
noncomputable def Du:Fn:={ np:=1,dflt:=[],slots:=3,body:=[.ret (.call (.gl 1) [.comp (.loc 2) (.many [1,2]) (.sub (.loc 0) (.int 1)) (.cmp .Eq (.loc 2) (.gl 9))])] }
noncomputable def GP:List (Str×Nat):=[((sO "row"),0)]
noncomputable def Dv:Fn:={ np:=1,dflt:=[],slots:=3,body:=[.loop (.many [1,2]) (.sub (.loc 0) (.int 1)) [.ite (.bop .Or [.cmp .Eq (.loc 2) (.gl 12),.cmp .Eq (.loc 2) (.gl 14)]) [.ret (.int (-1))] []],.ret (.call (.gl 1) [.sub (.loc 0) (.int 1)])] }
noncomputable def GQ:List (Str×Nat):=[((sO "row"),0),((sO "given"),1),((sO "mark"),2)]
noncomputable def Es:Fn:={ np:=2,dflt:=[],slots:=2,body:=[.ite (.cmp .Eq (.sub (.loc 1) (.int 1)) (.gl 14)) [.ret (.gl 37)] [],.ret (.ite (.cmp .Eq (.sub (.loc 1) (.int 1)) (.gl 10)) (.call (.gl 11) [.loc 0,.sub (.loc 1) (.int 0)]) (.sub (.loc 1) (.int 0)))] }
noncomputable def Hk:List (Str×Nat):=[((sO "tab"),0),((sO "elem"),1)]
noncomputable def DK:Fn:={ np:=1,dflt:=[],slots:=2,body:=[.ite (.cmp .Eq (.sub (.loc 0) (.int 0)) (.gl 6)) [.ret (.int 0)] [],.loop (.one 1) (.call (.gl 7) [.call (.gl 1) [.sub (.loc 0) (.int 1)]]) [.ite (.cmp .In (.sub (.sub (.sub (.loc 0) (.int 1)) (.loc 1)) (.int 1)) (.tup [.gl 12,.gl 14])) [.ret (.loc 1)] []],.ret (.call (.gl 1) [.sub (.loc 0) (.int 1)])] }
noncomputable def FQ:List (Str×Nat):=[((sO "row"),0),((sO "place"),1)]
noncomputable def D8:Fn:={ np:=2,dflt:=[],slots:=4,body:=[.assign 2 (.slFrom (.sub (.loc 1) (.int 1)) (.call (.gl 81) [.loc 1])),.ret (.ite (.loc 2) (.call (.gl 13) [.attr (.loc 0) 14,.comp (.call (.gl 82) [.attr (.loc 0) 14,.loc 3]) (.one 3) (.loc 2) (.bool true)]) (.int (-1)))] }
noncomputable def GZ:List (Str×Nat):=[((sO "host"),0),((sO "row"),1),((sO "late"),2)]
noncomputable def Dw:Fn:={ np:=2,dflt:=[],slots:=3,body:=[.ite (.bop .Or [.not (.sub (.loc 1) (.int 2)),.cmp .NotEq (.sub (.sub (.sub (.loc 1) (.int 2)) (.int (-1))) (.int 2)) (.gl 83)]) [.ret (.tup [])] [],.assign 2 (.meth (.loc 0) 3 [.sub (.sub (.sub (.loc 1) (.int 2)) (.int (-1))) (.int 1)]),.ret (.ite (.cmp .Eq (.loc 2) (.gl 22)) (.tup [.loc 2]) (.call (.gl 38) [.attr (.loc 0) 14,.loc 2]))] }
noncomputable def GT:List (Str×Nat):=[((sO "host"),0),((sO "row"),1),((sO "t"),2)]
noncomputable def DO:Fn:={ np:=1,dflt:=[],slots:=2,body:=[.ret (.call (.gl 1) [.comp (.loc 1) (.one 1) (.sub (.loc 0) (.int 2)) (.cmp .NotEq (.sub (.loc 1) (.int 2)) (.gl 83))])] }
noncomputable def FW:List (Str×Nat):=[((sO "row"),0)]
noncomputable def Fo:Fn:={ np:=3,dflt:=[],slots:=3,body:=[.ite (.cmp .Lt (.loc 2) (.call (.gl 81) [.loc 1])) [.ret (.call (.gl 82) [.attr (.loc 0) 14,.sub (.sub (.loc 1) (.int 1)) (.loc 2)])] [],.ret (.call (.gl 84) [.loc 0,.loc 1])] }
noncomputable def Im:List (Str×Nat):=[((sO "host"),0),((sO "row"),1),((sO "place"),2)]
noncomputable def HG:Fn:={ np:=3,dflt:=[],slots:=4,body:=[.assign 3 (.sub (.attr (.attr (.loc 0) 14) 4) (.loc 1)),.ite (.cmp .Eq (.sub (.loc 3) (.int 0)) (.gl 6)) [.ret (.sub (.loc 3) (.int 1))] [],.ite (.cmp .Eq (.sub (.loc 3) (.int 0)) (.gl 18)) [.ret (.call (.gl 85) [.loc 0,.loc 3,.loc 2])] [],.ite (.cmp .In (.loc 1) (.tup [.gl 35,.gl 36,.gl 22])) [.ret (.loc 1)] [],.ret (.meth (.loc 0) 21 [.tup [.gl 86,.loc 1,.gl 26]])] }
noncomputable def KQ:List (Str×Nat):=[((sO "host"),0),((sO "part"),1),((sO "place"),2),((sO "row"),3)]
noncomputable def Ct:Fn:={ np:=3,dflt:=[],slots:=11,body:=[.assign 3 (.sub (.attr (.attr (.loc 0) 14) 4) (.loc 1)),.assign 4 (.call (.gl 87) [.loc 3]),.ite (.cmp .Lt (.loc 2) (.loc 4)) [.assign 7 (.sub (.sub (.loc 3) (.int 2)) (.loc 2)),.assign 8 (.meth (.loc 0) 3 [.sub (.loc 7) (.int 1)]),.ret (.ite (.cmp .Eq (.sub (.loc 7) (.int 2)) (.gl 88)) (.call (.gl 11) [.attr (.loc 0) 14,.loc 8]) (.loc 8))] [],.assign 5 (.comp (.call (.gl 90) [.loc 0,.loc 9,.bin .Sub (.loc 2) (.loc 4)]) (.one 9) (.call (.gl 89) [.loc 0,.loc 3]) (.bool true)),.assign 6 (.comp (.meth (.loc 0) 3 [.loc 10]) (.one 10) (.loc 5) (.cmp .GtE (.loc 10) (.int 0))),.ret (.ite (.loc 6) (.call (.gl 13) [.attr (.loc 0) 14,.loc 6]) (.int (-1)))] }
noncomputable def Ip:List (Str×Nat):=[((sO "host"),0),((sO "s"),1),((sO "place"),2),((sO "row"),3),((sO "fixed"),4),((sO "found"),5),((sO "told"),6),((sO "param"),7),((sO "given"),8)]
noncomputable def DN:Fn:={ np:=1,dflt:=[],slots:=3,body:=[.assign 1 (.int 0),.loop (.one 2) (.call (.gl 7) [.call (.gl 1) [.sub (.loc 0) (.int 2)]]) [.ite (.cmp .Eq (.sub (.sub (.sub (.loc 0) (.int 2)) (.loc 2)) (.int 2)) (.gl 91)) [.assign 1 (.bin .Add (.loc 2) (.int 1))] []],.ret (.loc 1)] }
noncomputable def FU:List (Str×Nat):=[((sO "row"),0),((sO "found"),1),((sO "place"),2)]
noncomputable def Dx:Fn:={ np:=2,dflt:=[],slots:=3,body:=[.assign 2 (.call (.gl 92) [.loc 0,.loc 1]),.whl (.bop .And [.cmp .Gt (.loc 2) (.int 0),.cmp .In (.gl 93) (.call (.gl 38) [.attr (.loc 0) 14,.call (.gl 94) [.loc 0,.loc 1,.bin .Sub (.loc 2) (.int 1)]])]) [.aug 2 .Sub (.int 1)],.ret (.loc 2)] }
noncomputable def GU:List (Str×Nat):=[((sO "host"),0),((sO "s"),1),((sO "least"),2)]
noncomputable def Bt:Fn:={ np:=2,dflt:=[],slots:=7,body:=[.assign 2 (.sub (.attr (.attr (.loc 0) 14) 4) (.loc 1)),.assign 3 (.list []),.loop (.one 4) (.call (.gl 89) [.loc 0,.loc 2]) [.assign 6 (.sub (.attr (.attr (.loc 0) 14) 4) (.loc 4)),.expr (.meth (.loc 3) 0 [.ite (.cmp .Eq (.sub (.loc 6) (.int 0)) (.gl 18)) (.call (.gl 95) [.loc 6]) (.int 0)])],.assign 5 (.ite (.loc 3) (.call (.gl 96) [.loc 3]) (.int 0)),.ret (.ite (.cmp .Gt (.loc 5) (.int 0)) (.bin .Add (.call (.gl 87) [.loc 2]) (.loc 5)) (.call (.gl 97) [.loc 2]))] }
noncomputable def Ed:List (Str×Nat):=[((sO "host"),0),((sO "s"),1),((sO "row"),2),((sO "needs"),3),((sO "part"),4),((sO "least"),5),((sO "inside"),6)]
noncomputable def CX:Fn:={ np:=2,dflt:=[],slots:=7,body:=[.assign 2 (.sub (.attr (.attr (.loc 0) 14) 4) (.loc 1)),.assign 3 (.int 0),.loop (.one 4) (.call (.gl 89) [.loc 0,.loc 2]) [.assign 5 (.sub (.attr (.attr (.loc 0) 14) 4) (.loc 4)),.assign 6 (.ite (.cmp .Eq (.sub (.loc 5) (.int 0)) (.gl 18)) (.call (.gl 98) [.loc 5]) (.int (-1))),.ite (.cmp .Lt (.loc 6) (.int 0)) [.ret (.int (-1))] [],.assign 3 (.call (.gl 99) [.loc 3,.loc 6])],.ret (.bin .Add (.call (.gl 87) [.loc 2]) (.loc 3))] }
noncomputable def GV:List (Str×Nat):=[((sO "host"),0),((sO "s"),1),((sO "row"),2),((sO "most"),3),((sO "part"),4),((sO "inside"),5),((sO "here"),6)]
noncomputable def CW:Fn:={ np:=2,dflt:=[],slots:=6,body:=[.assign 2 (.sub (.attr (.attr (.loc 0) 14) 4) (.loc 1)),.assign 3 (.list []),.loop (.one 4) (.call (.gl 89) [.loc 0,.loc 2]) [.assign 5 (.sub (.attr (.attr (.loc 0) 14) 4) (.loc 4)),.expr (.meth (.loc 3) 0 [.ite (.cmp .Eq (.sub (.loc 5) (.int 0)) (.gl 18)) (.call (.gl 81) [.loc 5]) (.int 0)])],.ret (.bin .Add (.call (.gl 87) [.loc 2]) (.ite (.loc 3) (.call (.gl 96) [.loc 3]) (.int 0)))] }
noncomputable def GR:List (Str×Nat):=[((sO "host"),0),((sO "s"),1),((sO "row"),2),((sO "told"),3),((sO "part"),4),((sO "inside"),5)]
noncomputable def En:Fn:={ np:=3,dflt:=[],slots:=7,body:=[.assign 3 (.comp (.call (.gl 94) [.loc 0,.loc 5,.loc 2]) (.one 5) (.loc 1) (.cmp .GtE (.call (.gl 94) [.loc 0,.loc 5,.loc 2]) (.int 0))),.ite (.not (.loc 3)) [.ret (.int (-1))] [],.assign 4 (.comp (.loc 6) (.one 6) (.loc 3) (.cmp .NotEq (.loc 6) (.gl 35))),.ret (.ite (.loc 4) (.call (.gl 100) [.attr (.loc 0) 14,.loc 4]) (.gl 35))] }
noncomputable def My:List (Str×Nat):=[((sO "host"),0),((sO "sigs"),1),((sO "place"),2),((sO "found"),3),((sO "told"),4)]
noncomputable def CP:Fn:={ np:=2,dflt:=[],slots:=5,body:=[.assign 2 (.comp (.sub (.sub (.attr (.loc 0) 4) (.loc 3)) (.int 3)) (.one 3) (.loc 1) (.bool true)),.ret (.call (.gl 13) [.loc 0,.comp (.loc 4) (.one 4) (.loc 2) (.bop .Or [.cmp .NotEq (.loc 4) (.gl 45),.cmp .NotIn (.gl 93) (.loc 2)])])] }
noncomputable def EH:List (Str×Nat):=[((sO "tab"),0),((sO "sigs"),1),((sO "rets"),2)]
noncomputable def Dz:Fn:={ np:=2,dflt:=[],slots:=8,body:=[.assign 2 (.int 0),.assign 3 (.int 0),.assign 4 (.bool false),.loop (.one 5) (.loc 1) [.assign 6 (.call (.gl 101) [.loc 0,.loc 5]),.assign 4 (.bop .Or [.loc 4,.cmp .Lt (.loc 6) (.int 0)]),.assign 7 (.ite (.cmp .Lt (.loc 6) (.int 0)) (.call (.gl 102) [.loc 0,.loc 5]) (.loc 6)),.ite (.cmp .Gt (.call (.gl 103) [.loc 0,.loc 5]) (.loc 2)) [.assign 2 (.call (.gl 103) [.loc 0,.loc 5])] [],.ite (.cmp .Gt (.loc 7) (.loc 3)) [.assign 3 (.loc 7)] []],.ret (.tup [.loc 2,.ite (.cmp .Gt (.loc 2) (.loc 3)) (.loc 2) (.loc 3),.loc 4])] }
noncomputable def GX:List (Str×Nat):=[((sO "host"),0),((sO "sigs"),1),((sO "need"),2),((sO "told"),3),((sO "rest"),4),((sO "sig"),5),((sO "most"),6),((sO "far"),7)]
noncomputable def Dy:Fn:={ np:=4,dflt:=[],slots:=7,body:=[.assign 4 (.list []),.loop (.one 5) (.call (.gl 7) [.loc 2]) [.assign 6 (.ite (.cmp .Lt (.loc 5) (.loc 3)) (.gl 91) (.gl 88)),.expr (.meth (.loc 4) 0 [.tup [.bin .Add (.str (sO "arg")) (.call (.gl 104) [.loc 5]),.call (.gl 105) [.loc 0,.loc 1,.loc 5],.loc 6]])],.ret (.loc 4)] }
noncomputable def GW:List (Str×Nat):=[((sO "host"),0),((sO "sigs"),1),((sO "count"),2),((sO "marks_from"),3),((sO "out"),4),((sO "place"),5),((sO "mark"),6)]
noncomputable def DL:Fn:={ np:=4,dflt:=[],slots:=6,body:=[.loop (.one 4) (.call (.gl 7) [.loc 2,.loc 3]) [.assign 5 (.call (.gl 105) [.loc 0,.loc 1,.loc 4]),.ite (.bop .And [.cmp .NotEq (.loc 5) (.gl 35),.cmp .NotEq (.loc 5) (.gl 37),.cmp .NotEq (.loc 5) (.gl 36),.not (.call (.gl 106) [.attr (.loc 0) 14,.loc 5,.gl 45])]) [.ret (.bool false)] []],.ret (.bool true)] }
noncomputable def FS:List (Str×Nat):=[((sO "host"),0),((sO "sigs"),1),((sO "need"),2),((sO "told"),3),((sO "place"),4),((sO "t"),5)]
noncomputable def BI:Fn:={ np:=3,dflt:=[],slots:=12,body:=[.assign 3 (.attr (.loc 0) 14),.assignT [8,9,10] (.call (.gl 107) [.loc 0,.loc 1]),.assign 4 (.call (.gl 108) [.loc 3,.loc 1]),.assign 5 (.list []),.ite (.loc 10) [.assign 5 (.list [.tup [.str (sO "args"),.call (.gl 17) [.loc 3,.call (.gl 105) [.loc 0,.loc 1,.loc 9],.int 0],.gl 83]])] [],.ite (.call (.gl 109) [.loc 0,.loc 1,.loc 8,.loc 9]) [.assign 11 (.bin .Add (.call (.gl 110) [.loc 0,.loc 1,.loc 9,.loc 8]) (.loc 5)),.ret (.tup [.call (.gl 111) [.loc 3,.loc 2,.call (.gl 19) [.loc 11],.loc 4,.tup [],.int 0]])] [],.assign 6 (.list []),.loop (.one 7) (.call (.gl 7) [.loc 8,.bin .Add (.loc 9) (.int 1)]) [.assign 11 (.call (.gl 110) [.loc 0,.loc 1,.loc 7,.loc 7]),.ite (.cmp .Eq (.loc 7) (.loc 9)) [.assign 11 (.bin .Add (.loc 11) (.loc 5))] [],.expr (.meth (.loc 6) 0 [.call (.gl 111) [.loc 3,.loc 2,.call (.gl 19) [.loc 11],.loc 4,.tup [],.int 0]])],.ret (.call (.gl 19) [.loc 6])] }
noncomputable def FV:List (Str×Nat):=[((sO "host"),0),((sO "sigs"),1),((sO "own"),2),((sO "tab"),3),((sO "ret"),4),((sO "tail"),5),((sO "out"),6),((sO "count"),7),((sO "need"),8),((sO "told"),9),((sO "rest"),10),((sO "params"),11)]
noncomputable def D4:Fn:={ np:=2,dflt:=[],slots:=3,body:=[.assign 2 (.sub (.loc 0) (.int 0)),.store (.loc 0) (.int 0) (.bin .Add (.loc 2) (.int 1)),.ret (.bin .Mod (.ite (.cmp .Lt (.loc 2) (.call (.gl 1) [.sub (.loc 0) (.int 1)])) (.sub (.sub (.loc 0) (.int 1)) (.loc 2)) (.loc 2)) (.loc 1))] }
noncomputable def It:List (Str×Nat):=[((sO "d"),0),((sO "n"),1),((sO "at"),2)]
noncomputable def Ep:Fn:={ np:=2,dflt:=[],slots:=4,body:=[.assign 2 (.ite (.loc 1) (.list [.tup [.gl 93,.int 513],.tup [.gl 93,.int 513]]) (.list [.tup [.gl 35,.int 2047],.tup [.gl 37,.int 2047]])),.assign 3 (.list [.tup [.gl 25,.int 28],.tup [.call (.gl 112) [.loc 0,.str (sO "a")],.int 4],.tup [.gl 26,.int 96],.tup [.gl 45,.int 1],.tup [.call (.gl 112) [.loc 0,.str (sO "b")],.int 8]]),.assign 3 (.bin .Add (.loc 3) (.list [.tup [.call (.gl 113) [.loc 0,.int 1],.int 32],.tup [.gl 31,.int 256],.tup [.gl 114,.int 384],.tup [.gl 47,.int 2],.tup [.gl 22,.int 0]])),.ret (.bin .Add (.loc 3) (.loc 2))] }
noncomputable def HY:List (Str×Nat):=[((sO "tab"),0),((sO "world"),1),((sO "one"),2),((sO "rows"),3)]
noncomputable def D7:Fn:={ np:=3,dflt:=[],slots:=8,body:=[.assign 3 (.call (.gl 115) [.loc 0,.int 432]),.assignT [4,5] (.sub (.loc 2) (.bin .Mod (.loc 3) (.int 12))),.ite (.cmp .GtE (.loc 3) (.int 288)) [.assignT [6,7] (.sub (.loc 2) (.bin .Sub (.bin .FloorDiv (.loc 3) (.int 12)) (.int 24))),.ret (.tup [.call (.gl 13) [.loc 1,.list [.loc 4,.loc 6]],.bin .BitOr (.loc 5) (.loc 7)])] [],.ret (.tup [.loc 4,.loc 5])] }
noncomputable def Iy:List (Str×Nat):=[((sO "d"),0),((sO "tab"),1),((sO "table"),2),((sO "x"),3),((sO "kind"),4),((sO "mask"),5),((sO "other"),6),((sO "more"),7)]
noncomputable def D5:Fn:={ np:=3,dflt:=[],slots:=14,body:=[.assign 3 (.call (.gl 115) [.loc 0,.int 72]),.assign 4 (.bin .FloorDiv (.loc 3) (.int 12)),.assign 5 (.list []),.assign 6 (.list []),.assign 7 (.int (-1)),.loop (.one 8) (.call (.gl 7) [.bin .Mod (.loc 3) (.int 4)]) [.assignT [10,11] (.call (.gl 116) [.loc 0,.loc 1,.loc 2]),.assign 9 (.ite (.cmp .GtE (.loc 8) (.bin .Sub (.bin .Mod (.loc 3) (.int 4)) (.bin .Mod (.bin .FloorDiv (.loc 3) (.int 4)) (.int 3)))) (.int 1) (.int 0)),.expr (.meth (.loc 5) 0 [.tup [.bin .Add (.str (sO "p")) (.call (.gl 104) [.loc 8]),.loc 10,.ite (.loc 9) (.gl 88) (.gl 91)]]),.expr (.meth (.loc 6) 0 [.tup [.loc 11,.loc 9]])],.ite (.cmp .Eq (.loc 4) (.int 2)) [.assignT [10,7] (.call (.gl 116) [.loc 0,.loc 1,.loc 2]),.expr (.meth (.loc 5) 0 [.tup [.str (sO "r"),.call (.gl 17) [.loc 1,.loc 10,.bin .Mod (.loc 3) (.int 2)],.gl 83]])] [.ite (.cmp .Eq (.loc 4) (.int 3)) [.assign 7 (.int 2047),.expr (.meth (.loc 5) 0 [.tup [.str (sO "r"),.gl 35,.gl 83]])] [.ite (.cmp .Gt (.loc 4) (.int 3)) [.assign 12 (.call (.gl 115) [.loc 0,.int 6]),.assign 13 (.list []),.loop (.one 8) (.call (.gl 7) [.bin .Mod (.loc 12) (.int 3)]) [.assignT [10,11] (.call (.gl 116) [.loc 0,.loc 1,.loc 2]),.assign 9 (.ite (.bop .And [.cmp .Eq (.loc 8) (.bin .Sub (.bin .Mod (.loc 12) (.int 3)) (.int 1)),.cmp .Gt (.loc 12) (.int 2)]) (.int 1) (.int 0)),.expr (.meth (.loc 13) 0 [.tup [.loc 10,.ite (.loc 9) (.gl 10) (.gl 9)]]),.expr (.meth (.loc 6) 0 [.tup [.loc 11,.loc 9]])],.ite (.cmp .Eq (.loc 4) (.int 5)) [.assignT [10,7] (.call (.gl 116) [.loc 0,.loc 1,.loc 2]),.expr (.meth (.loc 13) 0 [.tup [.loc 10,.gl 12]])] [],.expr (.meth (.loc 5) 0 [.tup [.str (sO "r"),.call (.gl 117) [.loc 1,.loc 13,.int 0],.gl 83]])] []]],.ret (.tup [.loc 5,.tup [.loc 6,.loc 7]])] }
noncomputable def Iv:List (Str×Nat):=[((sO "d"),0),((sO "tab"),1),((sO "table"),2),((sO "x"),3),((sO "rest"),4),((sO "params"),5),((sO "places"),6),((sO "tail"),7),((sO "at"),8),((sO "late"),9),((sO "kind"),10),((sO "mask"),11),((sO "y"),12),((sO "elems"),13)]
noncomputable def JU:Fn:={ np:=2,dflt:=[],slots:=4,body:=[.assignT [2,3] (.loc 0),.ite (.cmp .Lt (.loc 1) (.call (.gl 1) [.loc 2])) [.ret (.bin .BitOr (.sub (.sub (.loc 2) (.loc 1)) (.int 0)) (.sub (.sub (.loc 2) (.loc 1)) (.int 1)))] [],.ret (.loc 3)] }
noncomputable def M0:List (Str×Nat):=[((sO "part"),0),((sO "place"),1),((sO "places"),2),((sO "tail"),3)]
noncomputable def Ft:Fn:={ np:=1,dflt:=[],slots:=3,body:=[.assign 1 (.int 0),.loop (.one 2) (.call (.gl 7) [.call (.gl 1) [.sub (.loc 0) (.int 0)]]) [.ite (.cmp .Eq (.sub (.sub (.sub (.loc 0) (.int 0)) (.loc 2)) (.int 1)) (.int 0)) [.assign 1 (.bin .Add (.loc 2) (.int 1))] []],.whl (.bop .And [.cmp .Gt (.loc 1) (.int 0),.cmp .Eq (.bin .BitAnd (.call (.gl 118) [.loc 0,.bin .Sub (.loc 1) (.int 1)]) (.int 1536)) (.int 512)]) [.aug 1 .Sub (.int 1)],.ret (.loc 1)] }
noncomputable def Iw:List (Str×Nat):=[((sO "part"),0),((sO "need"),1),((sO "at"),2)]
noncomputable def Fu:Fn:={ np:=3,dflt:=[],slots:=6,body:=[.assign 3 (.sub (.attr (.loc 0) 4) (.loc 2)),.assign 4 (.int 0),.loop (.one 5) (.ite (.cmp .Eq (.sub (.loc 3) (.int 0)) (.gl 23)) (.sub (.loc 3) (.int 1)) (.tup [.loc 2])) [.aug 4 .BitOr (.meth (.loc 1) 1 [.loc 5,.int 4096])],.ret (.loc 4)] }
noncomputable def Ix:List (Str×Nat):=[((sO "tab"),0),((sO "seen"),1),((sO "kind"),2),((sO "row"),3),((sO "mask"),4),((sO "one"),5)]
noncomputable def Fs:Fn:={ np:=3,dflt:=[],slots:=9,body:=[.assign 3 (.list []),.assign 4 (.int (-1)),.loop (.many [5,6,7]) (.sub (.sub (.attr (.loc 0) 4) (.loc 2)) (.int 2)) [.ite (.cmp .GtE (.loc 4) (.int 0)) [.ret (.tup [.list [],.int 8192])] [],.ite (.cmp .Eq (.loc 7) (.gl 83)) [.assign 8 (.sub (.attr (.loc 0) 4) (.loc 6)),.assign 4 (.ite (.bop .And [.cmp .Eq (.sub (.loc 8) (.int 0)) (.gl 6),.cmp .Eq (.sub (.loc 8) (.int 2)) (.int 0)]) (.call (.gl 119) [.loc 0,.loc 1,.sub (.loc 8) (.int 1)]) (.int 8192))] [.expr (.meth (.loc 3) 0 [.tup [.call (.gl 119) [.loc 0,.loc 1,.loc 6],.ite (.cmp .Eq (.loc 7) (.gl 88)) (.int 1) (.int 0)]])]],.ret (.tup [.loc 3,.loc 4])] }
noncomputable def Iu:List (Str×Nat):=[((sO "tab"),0),((sO "seen"),1),((sO "sig"),2),((sO "places"),3),((sO "tail"),4),((sO "name"),5),((sO "kind"),6),((sO "sign"),7),((sO "row"),8)]
noncomputable def DF:Fn:={ np:=5,dflt:=[],slots:=13,body:=[.assign 5 (.sub (.attr (.loc 0) 4) (.loc 2)),.assign 6 (.int 0),.loop (.many [9,10]) (.loc 3) [.aug 6 .BitOr (.loc 10)],.assign 7 (.comp (.loc 11) (.many [11,12]) (.loc 3) (.bool true)),.ite (.bop .Or [.cmp .NotEq (.sub (.loc 5) (.int 1)) (.loc 4),.cmp .NotEq (.sub (.loc 5) (.int 4)) (.tup []),.cmp .NotEq (.sub (.loc 5) (.int 5)) (.int 0),.cmp .NotEq (.call (.gl 119) [.loc 0,.loc 1,.sub (.loc 5) (.int 3)]) (.loc 6)]) [.ret (.bool false)] [],.assign 8 (.sub (.attr (.loc 0) 4) (.sub (.loc 5) (.int 3))),.ite (.bop .And [.cmp .Eq (.sub (.loc 8) (.int 0)) (.gl 23),.cmp .In (.gl 93) (.sub (.loc 8) (.int 1)),.cmp .In (.gl 45) (.sub (.loc 8) (.int 1))]) [.ret (.bool false)] [],.ret (.bop .And [.cmp .Eq (.cmp .Eq (.sub (.loc 5) (.int 3)) (.gl 35)) (.cmp .In (.gl 35) (.loc 7)),.cmp .Eq (.cmp .Eq (.sub (.loc 5) (.int 3)) (.gl 37)) (.bop .And [.cmp .In (.gl 37) (.loc 7),.cmp .NotIn (.gl 35) (.loc 7)])])] }
noncomputable def Hd:List (Str×Nat):=[((sO "tab"),0),((sO "seen"),1),((sO "sig"),2),((sO "rets"),3),((sO "own"),4),((sO "row"),5),((sO "mask"),6),((sO "kinds"),7),((sO "held"),8),((sO "kind"),9),((sO "more"),10)]
noncomputable def DE:Fn:={ np:=7,dflt:=[],slots:=27,body:=[.assign 7 (.call (.gl 99) [.comp (.call (.gl 120) [.loc 21]) (.one 21) (.loc 3) (.bool true)]),.assign 8 (.call (.gl 99) [.comp (.call (.gl 1) [.sub (.loc 22) (.int 0)]) (.one 22) (.loc 3) (.bool true)]),.assign 9 (.cmp .GtE (.call (.gl 99) [.comp (.sub (.loc 23) (.int 1)) (.one 23) (.loc 3) (.bool true)]) (.int 0)),.assign 10 (.comp (.call (.gl 121) [.loc 0,.loc 1,.loc 24]) (.one 24) (.loc 2) (.bool true)),.assign 11 (.list []),.loop (.one 12) (.call (.gl 7) [.bin .Add (.loc 8) (.int 2)]) [.assign 16 (.int 4095),.loop (.one 17) (.loc 3) [.ite (.cmp .GtE (.call (.gl 118) [.loc 17,.loc 12]) (.int 0)) [.aug 16 .BitAnd (.call (.gl 118) [.loc 17,.loc 12])] []],.expr (.meth (.loc 11) 0 [.loc 16])],.loop (.one 13) (.call (.gl 7) [.bin .Add (.loc 8) (.int 3)]) [.assign 18 (.bop .And [.cmp .LtE (.loc 7) (.loc 13),.bop .Or [.loc 9,.cmp .LtE (.loc 13) (.loc 8)]]),.assign 19 (.bool false),.loop (.one 20) (.loc 10) [.ite (.bop .And [.cmp .LtE (.call (.gl 120) [.loc 20]) (.loc 13),.bop .Or [.cmp .GtE (.sub (.loc 20) (.int 1)) (.int 0),.cmp .LtE (.loc 13) (.call (.gl 1) [.sub (.loc 20) (.int 0)])]]) [.assign 19 (.bool true),.ite (.bop .Or [.not (.loc 18),.cmp .NotEq (.comp (.call (.gl 118) [.loc 20,.loc 25]) (.one 25) (.call (.gl 7) [.loc 13]) (.bool true)) (.slTo (.loc 11) (.loc 13))]) [.ret (.bool false)] []] []],.ite (.cmp .NotEq (.loc 19) (.loc 18)) [.ret (.bool false)] []],.loop (.one 14) (.loc 2) [.ite (.not (.call (.gl 122) [.loc 0,.loc 1,.loc 14,.loc 4,.loc 5])) [.ret (.bool false)] []],.ite (.loc 6) [.ret (.bool true)] [],.assign 15 (.comp (.loc 26) (.one 26) (.call (.gl 7) [.loc 7,.loc 8]) (.cmp .Eq (.bin .BitAnd (.sub (.loc 11) (.loc 26)) (.int 1)) (.int 0))),.ret (.cmp .Eq (.call (.gl 1) [.loc 2]) (.ite (.cmp .Gt (.call (.gl 1) [.loc 15]) (.int 0)) (.bin .Add (.bin .Sub (.loc 8) (.loc 7)) (.int 1)) (.int 1)))] }
noncomputable def HZ:List (Str×Nat):=[((sO "tab"),0),((sO "seen"),1),((sO "both"),2),((sO "parts"),3),((sO "rets"),4),((sO "own"),5),((sO "world"),6),((sO "need"),7),((sO "told"),8),((sO "far"),9),((sO "reads"),10),((sO "wants"),11),((sO "place"),12),((sO "count"),13),((sO "sig"),14),((sO "miss"),15),((sO "mask"),16),((sO "part"),17),((sO "lets"),18),((sO "found"),19),((sO "read"),20)]
noncomputable def FZ:Fn:={ np:=1,dflt:=[],slots:=19,body:=[.assign 1 (.list [.int 0,.comp (.loc 18) (.one 18) (.slTo (.loc 0) (.int 40)) (.bool true)]),.assign 2 (.call (.gl 123) []),.assign 3 (.call (.gl 115) [.loc 1,.int 16]),.assign 4 (.bin .Mod (.loc 3) (.int 2)),.assign 5 (.call (.gl 124) [.loc 2,.loc 4]),.assign 6 (.dict [(29,128),(35,2047)]),.loop (.many [14,15]) (.loc 5) [.ite (.cmp .NotEq (.loc 14) (.gl 114)) [.store (.loc 6) (.loc 14) (.loc 15)] []],.assign 7 (.ite (.cmp .Eq (.bin .Mod (.bin .FloorDiv (.loc 3) (.int 2)) (.int 2)) (.int 1)) (.tup [.sub (.sub (.attr (.loc 2) 4) (.call (.gl 125) [.loc 2,.str (sO "T")])) (.int 1)]) (.tup [])),.assign 8 (.list []),.assign 9 (.list []),.assign 10 (.list []),.loop (.one 11) (.call (.gl 7) [.bin .Add (.int 2) (.bin .FloorDiv (.loc 3) (.int 12))]) [.assignT [16,17] (.call (.gl 126) [.loc 1,.loc 2,.loc 5]),.expr (.meth (.loc 10) 0 [.sub (.loc 5) (.call (.gl 115) [.loc 1,.int 12])]),.expr (.meth (.loc 9) 0 [.loc 17]),.expr (.meth (.loc 8) 0 [.call (.gl 111) [.loc 2,.loc 7,.loc 16,.sub (.sub (.loc 10) (.int (-1))) (.int 0)]])],.assign 12 (.call (.gl 127) [.call (.gl 128) [.loc 2],.loc 8,.loc 7]),.ite (.not (.call (.gl 129) [.loc 2,.loc 6,.loc 12,.loc 9,.loc 10,.loc 7,.loc 4])) [.ret (.bool false)] [],.ite (.cmp .NotEq (.call (.gl 127) [.call (.gl 128) [.loc 2],.rev (.loc 8),.loc 7]) (.loc 12)) [.ret (.bool false)] [],.assign 13 (.call (.gl 127) [.call (.gl 128) [.loc 2],.list [.sub (.loc 8) (.int (-1)),.sub (.loc 8) (.int (-1))],.loc 7]),.ret (.call (.gl 129) [.loc 2,.loc 6,.loc 13,.slFrom (.loc 9) (.int (-1)),.slFrom (.loc 10) (.int (-1)),.loc 7,.loc 4])] }
noncomputable def Hg:List (Str×Nat):=[((sO "script"),0),((sO "d"),1),((sO "tab"),2),((sO "how"),3),((sO "world"),4),((sO "table"),5),((sO "seen"),6),((sO "own"),7),((sO "sigs"),8),((sO "parts"),9),((sO "rets"),10),((sO "go"),11),((sO "both"),12),((sO "twice"),13),((sO "kind"),14),((sO "mask"),15),((sO "params"),16),((sO "part"),17)]
noncomputable def gnl:List Str:=[(sO "FIRST_ROWS"),(sO "len"),(sO "MOST_ROUNDS"),(sO "MOST_SHAPES"),(sO "Y_STR"),(sO "Y_NUM"),(sO "Y_ARRAY"),(sO "range"),(sO "last_mark"),(sO "E_NEED"),(sO "E_OPT"),(sO "add_undef"),(sO "E_REST"),(sO "union"),(sO "E_SPREAD"),(sO "one_rest"),(sO "needed_to_last"),(sO "array_type"),(sO "Y_TUPLE"),(sO "tuple"),(sO "Y_SIG"),(sO "Y_PARAM"),(sO "NEVER"),(sO "Y_UNION"),(sO "Y_TPL"),(sO "STRING"),(sO "NUMBER"),(sO "Y_ENUM"),(sO "MARKED_ROWS"),(sO "FALSE_T"),(sO "FRESH_F"),(sO "TRUE_T"),(sO "FRESH_T"),(sO "regular_twin"),(sO "whole_of_row"),(sO "ANY"),(sO "ERR"),(sO "UNKNOWN"),(sO "parts_of"),(sO "top_of"),(sO "join_bools"),(sO "sorted"),(sO "stays_beside"),(sO "MAX_UNION"),(sO "all"),(sO "UNDEF"),(sO "LITERAL_ROWS"),(sO "NULLT"),(sO "is_literal"),(sO "Y_KEY"),(sO "KEY_FAMILIES"),(sO "FAM_OTHER"),(sO "Y_BOOL"),(sO "FAM_BOOL"),(sO "OBJECT_ROWS"),(sO "FAM_OBJ"),(sO "Y_INTER"),(sO "FAM_STR"),(sO "FAM_NUM"),(sO "FAM_NULL"),(sO "FAM_UNDEF"),(sO "FAM_VOID"),(sO "MEET_LEFT"),(sO "MEET_RIGHT"),(sO "MEET_NEVER"),(sO "is_unit"),(sO "MEET_BOTH"),(sO "family"),(sO "is_nullish_family"),(sO "meet_nullish"),(sO "meet_values"),(sO "meet_case"),(sO "Y_REF"),(sO "D_OBJALIAS"),(sO "EMPTY"),(sO "Y_OBJ"),(sO "members_of_meet"),(sO "lay_on"),(sO "meet_parts"),(sO "MAX_DRAWN"),(sO "meet_two"),(sO "told_places"),(sO "elem_read"),(sO "A_REST"),(sO "late_place"),(sO "tuple_at"),(sO "Y_INDEX"),(sO "fixed_count"),(sO "A_OPT"),(sO "rest_parts"),(sO "rest_at"),(sO "A_NEED"),(sO "written_need"),(sO "VOID"),(sO "param_at"),(sO "tuple_need"),(sO "min"),(sO "last_needed"),(sO "tuple_most"),(sO "max"),(sO "inter"),(sO "most_count"),(sO "told_count"),(sO "need_count"),(sO "str"),(sO "met_at"),(sO "union_has"),(sO "met_counts"),(sO "joined_return"),(sO "takes_undef"),(sO "met_params"),(sO "sig_type"),(sO "str_type"),(sO "num_type"),(sO "BOOLEAN"),(sO "_law_take"),(sO "_law_kind"),(sO "tuple_type"),(sO "_law_at"),(sO "_law_mask"),(sO "_law_need"),(sO "_law_read"),(sO "_law_gives"),(sO "TypeTable"),(sO "_law_table"),(sO "new_param"),(sO "_law_part"),(sO "joined_sigs"),(sO "Thin"),(sO "_law_right")]
noncomputable def YY:List Str:=[(sO "append"),(sO "get"),(sO "put"),(sO "force"),(sO "rows"),(sO "index"),(sO "decls"),(sO "bounds"),(sO "defaults"),(sO "names"),(sO "origins"),(sO "renamed"),(sO "shaping"),(sO "putting"),(sO "tab"),(sO "deep"),(sO "most_rounds"),(sO "most_deep"),(sO "lib"),(sO "kind"),(sO "body"),(sO "put_deferred")]
noncomputable def Ra:List PV:=[.tup [.tup [.int 1,.str (sO "any")],.tup [.int 1,.str (sO "unknown")],.tup [.int 1,.str (sO "never")],.tup [.int 1,.str (sO "void")],.tup [.int 1,.str (sO "undefined")],.tup [.int 1,.str (sO "null")],.tup [.int 1,.str (sO "string")],.tup [.int 1,.str (sO "number")],.tup [.int 2,.int 0,.int 0],.tup [.int 2,.int 1,.int 0],.tup [.int 1,.str (sO "object")],.tup [.int 8,.tup [],.tup [],.tup [],.tup [],.tup [],.int 0],.tup [.int 6,.tup [.int 8,.int 9]],.tup [.int 1,.str (sO "error")],.tup [.int 2,.int 0,.int 1],.tup [.int 2,.int 1,.int 1]],.bi .len,.int 200,.int 40,.int 3,.int 4,.int 11,.bi .range,.fn 7,.int 0,.int 1,.fn 21,.int 2,.fn 19,.int 3,.fn 9,.fn 8,.fn 6,.int 12,.bi .tuple,.int 13,.int 10,.int 2,.int 6,.int 18,.int 6,.int 7,.int 5,.tup [.int 2,.int 3,.int 4,.int 5,.int 8],.int 8,.int 14,.int 9,.int 15,.fn 15,.fn 14,.int 0,.int 13,.int 1,.fn 13,.fn 18,.fn 16,.bi .sorted,.fn 17,.int 400,.bi .all,.int 4,.tup [.int 2,.int 3,.int 4,.int 5],.int 5,.fn 22,.int 1,.fd [(3,6),(4,5),(5,4),(6,1),(7,2),(10,7)],.int 0,.int 2,.int 3,.tup [.int 8,.int 9,.int 11,.int 12,.int 13],.int 7,.int 7,.int 1,.int 2,.int 4,.int 5,.int 6,.int 1,.int 2,.int 0,.fn 23,.int 3,.fn 24,.fn 25,.fn 26,.fn 27,.fn 28,.int 9,.int 3,.int 11,.int 8,.fn 30,.fn 29,.fn 31,.int 200,.fn 32,.fn 37,.fn 36,.int 2,.fn 38,.fn 41,.int 15,.fn 40,.int 1,.fn 39,.fn 42,.int 0,.fn 46,.int 3,.fn 43,.fn 34,.bi .min,.fn 44,.fn 35,.bi .max,.fn 33,.fn 47,.fn 48,.fn 45,.bi .str,.fn 49,.fn 20,.fn 51,.fn 50,.fn 53,.fn 52,.fn 11,.fn 4,.fn 5,.int 12,.fn 55,.fn 57,.fn 10,.fn 59,.fn 61,.fn 60,.fn 62,.fn 63,.cls 0,.fn 56,.fn 12,.fn 58,.fn 54,.cls 1,.fn 64]
noncomputable def QP:List Fn:=[Gr,Gq,Gs,HI,Be,Bg,BD,Er,B8,Fq,At,Bf,BB,Fp,Cq,Cs,CY,Cr,JR,Gp,Em,Et,D9,HH,JV,BR,Cv,DM,Eo,JT,Bu,D0,Cu,IG,Du,Dv,Es,DK,D8,Dw,DO,Fo,HG,Ct,DN,Dx,Bt,CX,CW,En,CP,Dz,Dy,DL,BI,D4,Ep,D7,D5,JU,Ft,Fu,Fs,DF,DE,FZ]
noncomputable def tx:Pd:={ mt:=fun c m=>if c=0∧m=2 then some 1 else if c=1∧m=3 then some 3 else none,ats:=fun c a=>if c=0 then ([4,5,6,7,8,9,10,11,12,13]:List Nat).contains a else if c=1 then ([14,15,16,17,18]:List Nat).contains a else false,gv:=fun g=>Ra.getD g .none,fn:=fun i=>QP[i]?,init:=fun c=>if c=0 then some 0 else if c=1 then some 2 else none }
end Mine
end
section
namespace Mine
open PySem PySem.W PyProof.Rows PySem.Spec
open scoped Classical
noncomputable def Pc {α:Type} (e:Value) (z:α) (k:Addr→α):α:=if h:e.ctorIdx=10 then Value.ref.elim (motive:=fun _=>α) e h k else z
theorem Nw {e:Value} {k:Addr→Bool} (h:Pc e false k=true):∃ a,e=.ref a∧k a=true :=
 (dB h).elim fun q h=>Value.ref.elim (motive:=fun e=>∀ q:e.ctorIdx=10,Value.ref.elim (motive:=fun _=>Bool) e q k=true→∃ a,e=.ref a∧k a=true) e q (fun a _ h=>⟨a,rfl,h⟩) q h
noncomputable def Yb {α:Type} (e:Value) (z:α) (k:String→α):α:=if h:e.ctorIdx=8 then Value.type.elim (motive:=fun _=>α) e h k else z
theorem XD {e:Value} {k:String→Bool} (h:Yb e false k=true):∃ a,e=.type a∧k a=true :=
 (dB h).elim fun q h=>Value.type.elim (motive:=fun e=>∀ q:e.ctorIdx=8,Value.type.elim (motive:=fun _=>Bool) e q k=true→∃ a,e=.type a∧k a=true) e q (fun a _ h=>⟨a,rfl,h⟩) q h
noncomputable def Yc {α:Type} (e:Value) (z:α) (k:Int→Tok→α):α:=if h:e.ctorIdx=4 then Value.int.elim (motive:=fun _=>α) e h k else z
theorem XE {e:Value} {k:Int→Tok→Bool} (h:Yc e false k=true):∃ a t,e=.int a t∧k a t=true :=
 (dB h).elim fun q h=>Value.int.elim (motive:=fun e=>∀ q:e.ctorIdx=4,Value.int.elim (motive:=fun _=>Bool) e q k=true→∃ a t,e=.int a t∧k a t=true) e q (fun a t _ h=>⟨a,t,rfl,h⟩) q h
noncomputable def AAC {α:Type} (e:Value) (z:α) (k:Str→Tok→α):α:=if h:e.ctorIdx=6 then Value.str.elim (motive:=fun _=>α) e h k else z
theorem AAB {e:Value} {k:Str→Tok→Bool} (h:AAC e false k=true):∃ a t,e=.str a t∧k a t=true :=
 (dB h).elim fun q h=>Value.str.elim (motive:=fun e=>∀ q:e.ctorIdx=6,Value.str.elim (motive:=fun _=>Bool) e q k=true→∃ a t,e=.str a t∧k a t=true) e q (fun a t _ h=>⟨a,t,rfl,h⟩) q h
noncomputable def XF {α:Type} (e:Value) (z:α) (k:Bool→α):α:=if h:e.ctorIdx=3 then Value.bool.elim (motive:=fun _=>α) e h k else z
theorem Yd {e:Value} {k:Bool→Bool} (h:XF e false k=true):∃ a,e=.bool a∧k a=true :=
 (dB h).elim fun q h=>Value.bool.elim (motive:=fun e=>∀ q:e.ctorIdx=3,Value.bool.elim (motive:=fun _=>Bool) e q k=true→∃ a,e=.bool a∧k a=true) e q (fun a _ h=>⟨a,rfl,h⟩) q h
noncomputable def YO {α:Type} (e:Data) (z:α) (k:Array Value→Nat→α):α:=if h:e.ctorIdx=2 then Data.seq.elim (motive:=fun _=>α) e h k else z
theorem Zk {e:Data} {k:Array Value→Nat→Bool} (h:YO e false k=true):∃ a n,e=.seq a n∧k a n=true :=
 (dB h).elim fun q h=>Data.seq.elim (motive:=fun e=>∀ q:e.ctorIdx=2,Data.seq.elim (motive:=fun _=>Bool) e q k=true→∃ a n,e=.seq a n∧k a n=true) e q (fun a n _ h=>⟨a,n,rfl,h⟩) q h
noncomputable def UN {α:Type} (e:Data) (z:α) (k:Array DictEntry→Nat→α):α:=if h:e.ctorIdx=3 then Data.dict.elim (motive:=fun _=>α) e h k else z
theorem UM {e:Data} {k:Array DictEntry→Nat→Bool} (h:UN e false k=true):∃ a n,e=.dict a n∧k a n=true :=
 (dB h).elim fun q h=>Data.dict.elim (motive:=fun e=>∀ q:e.ctorIdx=3,Data.dict.elim (motive:=fun _=>Bool) e q k=true→∃ a n,e=.dict a n∧k a n=true) e q (fun a n _ h=>⟨a,n,rfl,h⟩) q h
noncomputable def Nc {α:Type} (e:Data) (z:α) (k:FuncData→α):α:=if h:e.ctorIdx=7 then Data.func.elim (motive:=fun _=>α) e h k else z
theorem UL {e:Data} {k:FuncData→Bool} (h:Nc e false k=true):∃ a,e=.func a∧k a=true :=
 (dB h).elim fun q h=>Data.func.elim (motive:=fun e=>∀ q:e.ctorIdx=7,Data.func.elim (motive:=fun _=>Bool) e q k=true→∃ a,e=.func a∧k a=true) e q (fun a _ h=>⟨a,rfl,h⟩) q h
noncomputable def Yt (b:FuncBody) (k:List Stmt→Bool):Bool:=match b with
 | .stmts l=>k l
 | _=>false
theorem Ys {b:FuncBody} {k:List Stmt→Bool} (h:Yt b k=true):∃ l,b=.stmts l∧k l=true:=by
 cases b with
 | stmts l=>exact ⟨l,rfl,h⟩
 | _=>exact nB h
noncomputable def fdB:List (Int×Int)→List DictEntry→Bool
 | [],es=>es.isEmpty
 | p::l,es=>match es with
  | []=>false
  | e::es=>e.key.isInt p.1&&(e.hash==hashInt p.1&&(Yc e.val false (fun j _=>p.2==j)&&fdB l es))
mutual
noncomputable def pvB (K:Frag) (fa ca:List Addr):PV→Value→Bool
 | .none,v=>v.ctorIdx==0
 | .bool b,v=>XF v false fun d=>b==d
 | .int i,v=>Yc v false fun j _=>i==j
 | .str x,v=>AAC v false fun y _=>x==y
 | .tup ks,v=>Pc v false fun a=>DR (K.lookup a) fun o=>Yb o.cls false fun T=>T=="tuple"&&YO o.data false fun xs _=>Ih K fa ca ks xs.toList
 | .fn i,v=>Pc v false fun a=>fa[i]?==some a
 | .cls i,v=>Pc v false fun a=>ca[i]?==some a
 | .bi b,v=>v==L7 b
 | .fd l,v=>Pc v false fun a=>a != sysModules&&DR (K.lookup a) fun o=>Yb o.cls false fun T=>T=="dict"&&(o.dict.isNone&&(o.slots.size==0&&UN o.data false fun es _=>fdB l es.toList&&decide ((l.map (·.1)).Nodup)))
 | _,_=>false
noncomputable def Ih (K:Frag) (fa ca:List Addr):List PV→List Value→Bool
 | [],vs=>vs.isEmpty
 | k::ks,vs=>match vs with
  | []=>false
  | v::vs=>pvB K fa ca k v&&Ih K fa ca ks vs
end
noncomputable def Gn (Z:GA) (K:Frag) (cs:List (Addr×Str)) (f:Fn) (nm:List Str) (Γ:List (Str×Nat)) (a:Addr):Bool:=DR (K.lookup a) fun o=>Nc o.data false fun fd =>
 Yt fd.body (fun body=>Fa Z fd.scope.names Γ f.body body)&&(fd.closure.isEmpty&&(decide (fd.scope.kind=.function)&&(!fd.scope.isCoroutine&&(!fd.scope.isGenerator&&(fd.globals==mainGlobals&&(fd.builtins==builtinsNs
  && (Pc fd.code false (fun c=>cs.contains (c,fd.qualname))
  && (nm.length==f.np&&(decide nm.Nodup&&((nm.zipIdx.all fun p=>Γ.lookup p.1==some p.2)&&(decide ((Γ.map (·.2)).Nodup)
  && ((fd.scope.names.all fun p=>fd.scope.names.lookup p.1==some p.2&&p.2 != .free)&&(Γ.all fun p=>fd.scope.names.lookup p.1==some .local||fd.scope.names.lookup p.1==some .cell)))))))))))))
noncomputable def Ax (K:Frag) (a:Addr):List Value:=((K.lookup a).map fun o=>Nc o.data [] fun fd=>Pc fd.defaults [] fun T=>((K.lookup T).map fun o=>YO o.data [] fun xs _=>xs.toList).getD []).getD []
noncomputable def BE (K:Frag) (a:Addr) (S:Setting) (vs:List Value):Option (List (Str×Value)):=(K.lookup a).bind fun o=>Nc o.data none fun fd=>peek K S (bindArgs fd ⟨vs,[]⟩)
theorem TN {K:Frag} {a:Addr} {S:Setting} {vs:List Value} {o:Obj} {fd:FuncData} (h:K.lookup a=some o) (e:o.data=.func fd):BE K a S vs=peek K S (bindArgs fd ⟨vs,[]⟩):=by
 unfold BE
 rw [h]
 show Nc o.data none _=_
 rw [e];rfl
section
variable {c:Cx} {Z:GA}
theorem Zb:∀ (l:List (Int×Int)) (es:List DictEntry),fdB l es=true→∃ kvs:List (Int×Value),Pairs (intKind c.prog c.w) es kvs∧kvs.map (·.1)=l.map (·.1)∧FdR l kvs∧∀ e∈es,∃ k,(intKind c.prog c.w).is k e.key=true∧e.hash=(intKind c.prog c.w).hash k:=by
 intro l
 induction l with
 | nil =>
  intro es h
  rw [List.isEmpty_iff.mp h]
  exact ⟨[],.nil,rfl,trivial,fun e he=>absurd he List.not_mem_nil⟩
 | cons p l ih =>
  intro es h
  cases es with
  | nil=>exact nB h
  | cons e es =>
   have h1:=(AC h).1
   have h2:=beq_iff_eq.mp (AC (AC h).2).1
   refine oEEA (XE (AC (AC (AC h).2).2).1) fun j t hv h3=>?_
   refine oEAAA (ih es (AC (AC (AC h).2).2).2) fun kvs a1 a2 a3 a4=>?_
   exact ⟨(p.1,e.val)::kvs,.cons h1 rfl a1,congrArg (p.1::·) a2,⟨rfl,⟨t,hv.trans (congrArg (Value.int · t) (beq_iff_eq.mp h3).symm)⟩,a3⟩,List.forall_mem_cons.mpr ⟨⟨p.1,h1,h2⟩,a4⟩⟩
mutual
theorem TJ {fa ca:List Addr} (hf:∀ i,c.fnV i=fa[i]?) (hc:∀ i,c.clsV i=ca[i]?) (KB:c.K.In c.B):∀ (x:PV) (v:Value),pvB c.K fa ca x v=true→RV c c.B [] x v
 | .none,v,h=>Value.none.elim (motive:=fun v=>RV c c.B [] .none v) v (beq_iff_eq.mp h) GH
 | .bool b,v,h=>by
  refine oEA (Yd h) fun d z0 h=>?_;subst z0
  exact beq_iff_eq.mp h▸H7
 | .int i,v,h=>by
  refine oEEA (XE h) fun d t z0 h=>?_;subst z0
  exact beq_iff_eq.mp h▸Cl
 | .str i,v,h=>by
  refine oEEA (AAB h) fun d t z0 h=>?_;subst z0
  exact beq_iff_eq.mp h▸S9
 | .tup ks,v,h=>by
  refine oEA (Nw h) fun a z0 h=>?_;subst z0
  refine oEA (B4 h) fun o ho h=>?_
  refine oEA (XD h) fun T e1 h=>?_
  refine oEEA (Zk (AC h).2) fun xs n e2 h3=>?_
  exact LD (vs:=xs.toList) ⟨o,KB a o ho,e1.trans (congrArg _ (beq_iff_eq.mp (AC h).1)),n,e2⟩ List.not_mem_nil (DI hf hc KB ks _ h3)
 | .rng _ _,v,h=>nB h
 | .obj _,v,h=>nB h
 | .fl _,v,h=>nB h
 | .fn i,v,h=>by
  refine oEA (Nw h) fun a z0 h=>?_;subst z0
  exact Py ((hf i).trans (beq_iff_eq.mp h))
 | .cls i,v,h=>by
  refine oEA (Nw h) fun a z0 h=>?_;subst z0
  exact ⟨a,(hc i).trans (beq_iff_eq.mp h),rfl⟩
 | .bi b,v,h=>beq_iff_eq.mp h
 | .fd l,v,h=>by
  refine oEA (Nw h) fun a z0 h=>?_;subst z0
  refine oEA (B4 (AC h).2) fun o ho h'=>?_
  refine oEA (XD h') fun T e1 h'=>?_
  refine oEEA (UM (AC (AC (AC h').2).2).2) fun es n e2 h3=>?_
  refine oEAAA (Zb (c:=c) l es.toList (AC h3).1) fun kvs a1 a2 a3 a4=>?_
  exact ⟨a,kvs,rfl,⟨o,es,n,KB a o ho,⟨e1.trans (congrArg _ (beq_iff_eq.mp (AC h').1)),Option.isNone_iff_eq_none.mp (AC (AC h').2).1,Array.eq_empty_of_size_eq_zero (beq_iff_eq.mp (AC (AC (AC h').2).2).1)⟩,e2,fun e he=>a4 e (Array.mem_toList_iff.mpr he),a1,a2▸of_decide_eq_true (AC h3).2⟩,DJ (AC h).1,a3⟩
theorem DI {fa ca:List Addr} (hf:∀ i,c.fnV i=fa[i]?) (hc:∀ i,c.clsV i=ca[i]?) (KB:c.K.In c.B):∀ (xs:List PV) (vs:List Value),Ih c.K fa ca xs vs=true→AQ c c.B [] xs vs
 | [],vs,h=>by rw [List.isEmpty_iff.mp h];exact AQ.nil
 | x::xs,vs,h=>by
  cases vs with
  | nil=>exact nB h
  | cons v vs=>exact AQ.cons (TJ hf hc KB x v (AC h).1) (DI hf hc KB xs vs (AC h).2)
end
theorem Fw {f:Fn} {nm:List Str} {Γ:List (Str×Nat)} {a:Addr} {fa ca:List Addr} (hf:∀ i,c.fnV i=fa[i]?) (hc:∀ i,c.clsV i=ca[i]?) (KB:c.K.In c.B) {cs:List (Addr×Str)} (KC:∀ p∈cs,c.B.CodeRec (.ref p.1) p.2) (h:Gn Z c.K cs f nm Γ a=true) (hd:Ih c.K fa ca f.dflt (Ax c.K a)=true)
  (hb:∀ vs:List Value,vs.length≤f.np→f.np≤vs.length+f.dflt.length→∀ S,BE c.K a S vs=some (nm.zip (vs++(Ax c.K a).drop ((Ax c.K a).length-(f.np-vs.length))))) :
  ∃ o fd body names Γ dv,Ql c Z f a o fd body names Γ dv:=by
 refine oEA (B4 h) fun o ho h=>?_
 refine oEA (UL h) fun fd e h=>?_
 refine oEA (Ys (AC h).1) fun body hbody h1=>?_
 have h:=(AC h).2
 have h2:=(AC h).1
 have h:=(AC h).2
 have h3:=(AC h).1
 have h:=(AC h).2
 have h4:=(AC h).1
 have h:=(AC h).2
 have h5:=(AC h).1
 have h:=(AC h).2
 have h6:=(AC h).1
 have h:=(AC h).2
 have h7:=(AC h).1
 have h:=(AC h).2
 refine oEA (Nw (AC h).1) fun cc hcc h8=>?_
 have h:=(AC h).2
 have h9:=(AC h).1
 have h:=(AC h).2
 have h10:=(AC h).1
 have h:=(AC h).2
 have h11:=List.all_eq_true.mp (AC h).1
 have h:=(AC h).2
 have h12:=(AC h).1
 have h:=(AC h).2
 have h13:=List.all_eq_true.mp (AC h).1
 have h14:=List.all_eq_true.mp (AC h).2
 exact ⟨o,fd,body,nm,Γ,Ax c.K a,⟨KB a _ ho,e,hcc▸KC (cc,fd.qualname) (List.contains_iff_mem.mp h8),hbody,List.isEmpty_iff.mp h2,of_decide_eq_true h3,DJ h4,DJ h5,beq_iff_eq.mp h6,beq_iff_eq.mp h7,beq_iff_eq.mp h9,of_decide_eq_true h10,
  fun k y hy=>beq_iff_eq.mp (h11 (y,k) (List.mk_mem_zipIdx_iff_getElem?.mpr hy)),of_decide_eq_true h12,fun p hp=>beq_iff_eq.mp (AC (h13 p hp)).1,fun p hp=>bne_iff_ne.mp (AC (h13 p hp)).2,
  fun y i hy=>(Bool.or_eq_true_iff.mp (h14 (y,i) (lookup_mem hy))).imp beq_iff_eq.mp beq_iff_eq.mp,DI hf hc KB _ _ hd,
  fun s vs X l1 l2=>kp_binds X fun S=>(TN ho e).symm.trans (hb vs l1 l2 S),h1⟩⟩
end
end Mine
end
section
namespace Mine
open PySem PySem.W PyProof.Rows PySem.Spec
open scoped Classical
theorem len0 {p:List Value→Prop} (h:p []):∀ vs:List Value,vs.length=0→p vs:=fun vs e=>by rw [List.length_eq_zero_iff.mp e];exact h
theorem On {m:Nat} {p:List Value→Prop} (h:∀ v,∀ vs:List Value,vs.length=m→p (v::vs)):∀ vs:List Value,vs.length=m+1→p vs:=fun vs e=>by
 cases vs with
 | nil=>cases e
 | cons v vs=>exact h v vs (by simpa using e)
theorem Cp {p:List Value→Prop} (h:∀ a,p [a]):∀ vs:List Value,vs.length=1→p vs:=On fun a=>len0 (h a)
theorem BX {p:List Value→Prop} (h:∀ a b,p [a,b]):∀ vs:List Value,vs.length=2→p vs:=On fun a=>Cp (p:=fun l=>p (a::l)) (h a)
theorem C4 {p:List Value→Prop} (h:∀ a b c,p [a,b,c]):∀ vs:List Value,vs.length=3→p vs:=On fun a=>BX (p:=fun l=>p (a::l)) (h a)
theorem RS {p:List Value→Prop} (h:∀ a b c d,p [a,b,c,d]):∀ vs:List Value,vs.length=4→p vs:=On fun a=>C4 (p:=fun l=>p (a::l)) (h a)
theorem V7 {p:List Value→Prop} (h:∀ a b c d e,p [a,b,c,d,e]):∀ vs:List Value,vs.length=5→p vs:=On fun a=>RS (p:=fun l=>p (a::l)) (h a)
theorem ZK {p:List Value→Prop} (h:∀ a b c d e f,p [a,b,c,d,e,f]):∀ vs:List Value,vs.length=6→p vs:=On fun a=>V7 (p:=fun l=>p (a::l)) (h a)
theorem AAn {p:List Value→Prop} (h:∀ a b c d e f g,p [a,b,c,d,e,f,g]):∀ vs:List Value,vs.length=7→p vs:=On fun a=>ZK (p:=fun l=>p (a::l)) (h a)
noncomputable def glB (K:Frag) (fa ca:List Addr) (l:List (Str×PV)):Bool:=DR (K.lookup mainGlobals) fun o=>UN o.data false fun es _=>!(es.toList.any (·.refKey))&&l.all fun p=>p.1 != dbg&&((es.toList.find? (·.key.isStr p.1)).elim
  (p.1 != sO "__name__"&&DR (bootBuiltins p.1) fun v=>pvB K fa ca p.2 v) fun e=>pvB K fa ca p.2 e.val)
theorem V0 {K:Frag} {o:Obj} {es:Array DictEntry} {n:Nat} {y:Str} {e:DictEntry} (ho:K.lookup mainGlobals=some o) (e2:o.data=.dict es n) (he:es.toList.find? (·.key.isStr y)=some e):nsIn K mainGlobals y=some (some e.val):=by
 obtain ⟨oc,od,da,sl⟩:=o
 cases (show da=_ from e2)
 unfold nsIn;rw [ho];dsimp only;rw [he]
theorem V1 {K:Frag} {o:Obj} {es:Array DictEntry} {n:Nat} {y:Str} (ho:K.lookup mainGlobals=some o) (e2:o.data=.dict es n) (hr:es.toList.any (·.refKey)=false) (he:es.toList.find? (·.key.isStr y)=none):nsIn K mainGlobals y=some none:=by
 obtain ⟨oc,od,da,sl⟩:=o
 cases (show da=_ from e2)
 unfold nsIn;rw [ho];dsimp only;rw [he];dsimp only;rw [hr];rfl
theorem KA {env:Env} {s:Shared} {A:Around} {P E:Value→Shared→Prop} {m:Model} {y:Str} (hk:env.scope.kind=.function) (hx:env.kindOf y=some .globalImplicit) (hw:wpAny m A (loadGlobal env y) P E s):wpAny m A (loadName env y) P E s:=by
 unfold loadName
 simp only [Env.blockKind,hk,hx,ScopeKind.isAnnotationScope,Bool.false_and,Bool.false_eq_true,if_false]
 exact hw
section
variable {c:Cx} {Z:GA} {t:Pd}
theorem ZV {fa ca:List Addr} {gv:List PV} {p:Program} {loose:List Str} {mg mb:Str→Option Value} (hf:∀ i,c.fnV i=fa[i]?) (hc:∀ i,c.clsV i=ca[i]?) (KB:c.K.In c.B) (han:Z.an=c.an) (hl:Z.gn.length=gv.length) (hgv:∀ g,t.gv g=gv.getD g .none)
  (TR:TopRead p loose mg mb c.B) (h:glB c.K fa ca (Z.gn.zip gv)=true):H0 c t.toTx Z:=by
 refine ⟨han,fun g y hy=>?_⟩
 have hg:g<Z.gn.length:=(gI hy).1
 have hx:gv[g]?=some (gv.getD g .none):=by
  rw [List.getD_eq_getElem?_getD]
  have:g<gv.length:=by omega
  rw [List.getElem?_eq_getElem this];rfl
 have hmem:(y,gv.getD g .none)∈Z.gn.zip gv:=by
  have:(Z.gn.zip gv)[g]?=some (y,gv.getD g .none):=by
   rw [List.getElem?_zip_eq_some];exact ⟨hy,hx⟩
  exact List.mem_of_getElem? this
 refine oEA (B4 h) fun o ho h=>?_
 refine oEEA (UM h) fun es n e2 h=>?_
 have hr:=DJ (AC h).1
 have h:=List.all_eq_true.mp (AC h).2 _ hmem
 refine ⟨DJ (AC h).1,?_⟩
 have h:=(AC h).2
 rw [hgv]
 cases he:es.toList.find? (·.key.isStr y) with
 | some e =>
  rw [he] at h
  exact ⟨e.val,TJ hf hc KB _ _ h,fun env s A P E hb hk hx hgg hbb q=>KA hk hx (PySem.Calls.loadGlobal_global (hgg▸TR.g.keeps hb) (mg_of KB TR.g (V0 ho e2 he)) q)⟩
 | none =>
  rw [he] at h
  refine oEA (B4 (AC h).2) fun v hv h'=>?_
  exact ⟨v,TJ hf hc KB _ _ h',fun env s A P E hb hk hx hgg hbb q=>KA hk hx (PySem.Calls.loadGlobal_builtin (hgg▸TR.g.keeps hb) (mg_none_of KB TR.g (V1 ho e2 hr he)) (hbb▸TR.b.keeps hb) ((TR.builtins y (bne_iff_ne.mp (AC h).1)).trans hv) q)⟩
noncomputable def YP (K:Frag) (C:Addr):Bool:=plainGet K C ""&&hasDictIn K C&&plainOver K C&&findIn K (.ref C) "__setattr__"==some (some (.builtin "object.__setattr__"))&&keepIn K (.ref C)
noncomputable def Uk (K:Frag) (C:Addr) (n:Str):Bool:=DR (findIn K (.ref C) n) (fun attr=>noGet K attr)&&DR (takerIn K C n) fun o=>o.isNone
noncomputable def Td (K:Frag) (C:Addr) (n:Str) (f:Addr):Bool:=findIn K (.ref C) n==some (some (.ref f))&&typeIn K (.ref f)==some (.type "function")
theorem UU {K:Frag} {C:Addr} (h:YP K C=true):XK K C∧keepIn K (.ref C)=true :=
 ⟨⟨(AC (AC (AC (AC h).1).1).1).1,(AC (AC (AC (AC h).1).1).1).2,(AC (AC (AC h).1).1).2,beq_iff_eq.mp (AC (AC h).1).2⟩,(AC h).2⟩
theorem Ui {K:Frag} {C:Addr} {n:Str} (h:Uk K C n=true):(∃ attr,findIn K (.ref C) n=some attr∧noGet K attr=true)∧takerIn K C n=some none:=by
 refine oEA (B4 (AC h).2) fun o e h2=>?_
 exact ⟨B4 (AC h).1,e.trans (congrArg some (Option.isNone_iff_eq_none.mp h2))⟩
theorem LO {K:Frag} {C f:Addr} {n:Str} (h:Td K C n f=true):findIn K (.ref C) n=some (some (.ref f))∧typeIn K (.ref f)=some (.type "function"):=⟨beq_iff_eq.mp (AC h).1,beq_iff_eq.mp (AC h).2⟩
theorem Dq {Z:GA} {K:Frag} {cs:List (Addr×Str)} {f:Fn} {nm:List Str} {Γ:List (Str×Nat)} {a:Addr} (h:Gn Z K cs f nm Γ a=true):keepIn K (.ref a)=true:=by
 refine oEA (B4 h) fun z0 ho h=>?_;obtain ⟨oc,od,da,sl⟩:=z0
 refine oEA (UL h) fun fd e h=>?_
 cases (show da=_ from e)
 unfold keepIn;dsimp only;rw [ho]
end
end Mine
end
section
namespace Mine.V
open PySem
open scoped Classical
section
variable {n:Nat} {σ:Lo} {st:St} {Q:PV→St→Prop}
noncomputable abbrev Wn (n:Nat):=W tx.toTx (Call tx n)
noncomputable abbrev Ye (n:Nat):=Ws tx.toTx (Call tx n)
noncomputable abbrev Tn (n:Nat) (e:PE):=T tx.toTx (Call tx n) e (W tx.toTx (Call tx n) e)
noncomputable abbrev Xn (n:Nat):=X tx.toTx (Call tx n)
noncomputable abbrev Nx (n:Nat):=Xs tx.toTx (Call tx n)
theorem Am {i:Nat} {v:PV} (h:σ[i]?=some (some v)) (q:Q v st):Wn n (.loc i) σ st Q:=Exists.intro v ⟨h,q⟩
theorem EF {i:Int} (q:Q (.int i) st):Wn n (.int i) σ st Q:=q
theorem XQ {b:Bool} (q:Q (.bool b) st):Wn n (.bool b) σ st Q:=q
theorem R0 (q:Q .none st):Wn n .none σ st Q:=q
theorem IQ {g:Nat} {v:PV} (h:Ra[g]?=some v) (q:Q v st):Wn n (.gl g) σ st Q:=by
 show Q (Ra.getD g .none) st
 rw [List.getD_eq_getElem?_getD,h];exact q
theorem Yn {es:List PE} (q:Ye n es σ st fun vs st=>Q (.tup vs) st):Wn n (.tup es) σ st Q:=q
theorem Gz {es:List PE} (q:Ye n es σ st fun vs st=>Q (.obj st.length) (st++[.list vs])):Wn n (.list es) σ st Q:=q
theorem Bc {Q:List PV→St→Prop} (q:Q [] st):Ye n [] σ st Q:=q
theorem Ba {e:PE} {es:List PE} {Q:List PV→St→Prop} (q:Wn n e σ st fun v st=>Ye n es σ st fun vs st=>Q (v::vs) st):Ye n (e::es) σ st Q:=q
theorem Kv (q:Q (.obj st.length) (st++[.dict []])):Wn n (.dict []) σ st Q:=Exists.intro [] ⟨.nil,Nat.zero_le _,q⟩
theorem w_sub {e i:PE} (q:Wn n e σ st fun o st=>Wn n i σ st fun k st=>∃ v,N0 st o k v∧Q v st):Wn n (.sub e i) σ st Q:=q
theorem IR {e:PE} {a:Nat} (q:Wn n e σ st fun o st=>Jl tx.toTx a st Q o):Wn n (.attr e a) σ st Q:=q
theorem Wf {op:Operator} {a b:PE} (q:Wn n a σ st fun u st=>Wn n b σ st fun v st=>Pf st Q op u v):Wn n (.bin op a b) σ st Q:=q
theorem R4 {op:CmpOp} {a b:PE} (q:Wn n a σ st fun u st=>Wn n b σ st fun v st=>∃ r,C5 st op u v r∧Q (.bool r) st):Wn n (.cmp op a b) σ st Q:=q
theorem w_ite {c a b:PE} (q:Tn n c σ st fun t st=>match t with | true=>Wn n a σ st Q | false=>Wn n b σ st Q):Wn n (.ite c a b) σ st Q:=q
theorem Kw {f:PE} {as:List PE} (q:Wn n f σ st fun g st=>Ye n as σ st fun vs st=>Kr (Call tx n) st Q vs g):Wn n (.call f as) σ st Q:=q
theorem XN {e h:PE} (q:Wn n e σ st fun o st=>Wn n h σ st fun k st=>∃ m:Int,k=.int m∧0≤m∧Qh st Q m o):Wn n (.slTo e h) σ st Q:=q
theorem Ku {o:PE} {m:Nat} {as:List PE} (q:Wn n o σ st fun b st=>MethW tx.toTx (Call tx n) m (Ye n as σ) st Q b):Wn n (.meth o m as) σ st Q:=q
theorem XO {elt:PE} {t:PT} {it cond:PE} (q:Wn n it σ st fun v st=>∃ its,C2 st v its∧Gd (Wn n elt) (Tn n cond) t v its σ its [] st fun out st=>Q (.obj st.length) (st++[.list out])):Wn n (.comp elt t it cond) σ st Q:=q
theorem H6 {e:PE} {Q:Bool→St→Prop} (hT:T tx.toTx (Call tx n) e (W tx.toTx (Call tx n) e)=fun σ st Q=>W tx.toTx (Call tx n) e σ st fun v st=>∃ b,BP st v b∧Q b st)
  (q:Wn n e σ st fun v st=>∃ b,BP st v b∧Q b st):Tn n e σ st Q:=by
 show T _ _ e _ σ st Q
 rw [hT];exact q
section
variable {Q:Fl→Lo→St→Prop}
theorem Rx (q:Q .next σ st):Nx n [] σ st Q:=q
theorem An {s:PS} {r:List PS} (q:Xn n s σ st (WD (fun σ st=>Nx n r σ st Q) Q)):Nx n (s::r) σ st Q:=q
theorem EU {i:Nat} {e:PE} (q:Wn n e σ st fun v st=>Q .next (σ.set i (some v)) st):Xn n (.assign i e) σ st Q:=q
theorem Ph {e:PE} (q:Wn n e σ st fun v st=>Q (.ret v) σ st):Xn n (.ret e) σ st Q:=q
theorem N4 {e:PE} (q:Wn n e σ st fun v st=>(v=.none∨v.isInt=true)∧Q .next σ st):Xn n (.expr e) σ st Q:=q
theorem We {c:PE} {t f:List PS} (q:Tn n c σ st fun b st=>match b with | true=>Nx n t σ st Q | false=>Nx n f σ st Q):Xn n (.ite c t f) σ st Q:=q
theorem XM {t:PT} {it:PE} {body:List PS} (q:Wn n it σ st fun v st=>∃ its,C2 st v its∧KW (Nx n body) t v its its σ st Q):Xn n (.loop t it body) σ st Q:=q
theorem H4 {o i e:PE} (q:Wn n e σ st fun v st=>Wn n o σ st fun b st=>Wn n i σ st fun k st=>Ji st (fun st=>Q .next σ st) v b k):Xn n (.store o i e) σ st Q:=q
theorem Pg {o e:PE} {a:Nat} (q:Wn n e σ st fun v st=>Wn n o σ st fun b st=>WW tx.toTx a v st (fun st=>Q .next σ st) b):Xn n (.setat o a e) σ st Q:=q
end
end
end Mine.V
end
section
namespace Mine.V
open PySem
open scoped Classical
noncomputable def tat:List (Nat×PV):=[(4,.obj 5),(5,.obj 6),(6,.obj 7),(7,.obj 8),(8,.obj 9),(9,.obj 10),(10,.obj 11),(11,.obj 12),(12,.int 0),(13,.int 0)]
noncomputable def idxOf (rows:List PV):List (PV×PV):=rows.zipIdx.map fun p=>(p.1,PV.int p.2)
structure TS (rows:List PV) (st:St):Prop where
 inst:st[4]?=some (.inst 0 3)
 attrs:st[3]?=some (.attrs tat)
 rws:st[5]?=some (.list rows)
 idx:st[6]?=some (.dict (idxOf rows))
 nd:rows.Nodup
 tup:∀ r∈rows,r.isTup=true∧r.plain=true
 len:rows.length≤50000
theorem JI (rows:List PV):(idxOf rows).map (·.1)=rows:=by
 unfold idxOf
 rw [List.map_map]
 have:((fun x:PV×PV=>x.1)∘fun p:PV×Nat=>(p.1,PV.int p.2))=Prod.fst:=rfl
 rw [this]
 rw [List.zipIdx_map_fst]
theorem TS.keyed {rows:List PV} {st:St} (h:TS rows st) {r:PV} (h1:r.isTup=true) (h2:r.plain=true):keyed r (idxOf rows):=by
 refine .inr ⟨h1,h2,fun p hp=>?_⟩
 have:p.1∈(idxOf rows).map (·.1):=List.mem_map_of_mem hp
 rw [JI] at this
 exact (h.tup _ this).1
theorem Tm {rows:List PV} (nd:rows.Nodup) {r:PV} {i:Nat} (h:rows[i]?=some r):look (idxOf rows) r=some (.int i):=by
 unfold look idxOf
 have key:∀ (l:List PV) (k j:Nat),l.Nodup→l[j]?=some r→((l.zipIdx k).map fun p:PV×Nat=>(p.1,PV.int p.2)).find? (fun p=>decide (p.1=r))=some (r,.int ((k+j:Nat))):=by
  intro l
  induction l with
  | nil=>intro k j _ h;simp at h
  | cons a l ih =>
   intro k j nd h
   simp only [List.zipIdx_cons,List.map_cons,List.find?_cons]
   cases j with
   | zero=>simp at h;subst h;simp
   | succ j =>
    have hne:¬a=r:=fun e=>(List.nodup_cons.mp nd).1 (e▸List.mem_of_getElem? (by simpa using h))
    simp only [hne,decide_false]
    rw [ih (k+1) j (List.nodup_cons.mp nd).2 (by simpa using h)]
    simp;omega
 rw [key rows 0 i nd h]
 simp
theorem Js {rows:List PV} {r:PV} (h:r∉rows):look (idxOf rows) r=none:=by
 unfold look
 rw [Option.map_eq_none_iff,List.find?_eq_none]
 intro p hp e
 have:p.1∈(idxOf rows).map (·.1):=List.mem_map_of_mem hp
 rw [JI] at this
 exact h ((of_decide_eq_true e)▸this)
theorem EC {n i:Nat} {f:Fn} {as:List PV} {st:St} {Q:PV→St→Prop} (hf:QP[i]?=some f) (a:as.length≤f.np) (b:f.np≤as.length+f.dflt.length) (h:Nx n f.body (f.start as) st (back Q)):Call tx (n+1) (.fn i) as st Q:=Kt.fn (f:=f) hf a b h
theorem T4 (rows:List PV) (r:PV):idxOf (rows++[r])=idxOf rows++[(r,.int rows.length)]:=by
 unfold idxOf
 rw [List.zipIdx_append]
 simp
theorem Ja {n:Nat} {rows:List PV} {st:St} {r:PV} {Q:PV→St→Prop} (H:TS rows st) (h1:r.isTup=true) (h2:r.plain=true) (q1:∀ i:Nat,rows[i]?=some r→Q (.int i) st)
  (q2:r∉rows→Q (.int rows.length) ((st.set 5 (.list (rows++[r]))).set 6 (.dict (idxOf (rows++[r]))))):Call tx (n+1) (.fn 1) [.obj 4,r] st Q:=by
 have e0:=H.inst
 have e1:=H.attrs
 have e2:=H.rws
 have e3:=H.idx
 have hk:=H.keyed h1 h2
 have at6:∀ {Q:PV→St→Prop},Q (.obj 6) st→Wn n (.attr (.loc 0) 5) (Gq.start [.obj 4,r]) st Q:=fun q=>IR (Am rfl (Jl.mk e0 e1 rfl rfl q))
 have at5:∀ {Q:PV→St→Prop} {σ:Lo},σ[0]?=some (some (.obj 4))→Q (.obj 5) st→Wn n (.attr (.loc 0) 4) σ st Q:=fun h q=>IR (Am h (Jl.mk e0 e1 rfl rfl q))
 refine EC (f:=Gq) rfl (Nat.le_of_ble_eq_true rfl) (Nat.le_of_ble_eq_true rfl) (An (We (H6 rfl (R4 (Am rfl (at6 ⟨_,C5.isin (WZ.dict e3 hk),_,BP.bool _,?_⟩))))))
 rw [JI]
 by_cases hm:r∈rows
 ·rw [decide_eq_true hm]
  refine oE (List.getElem?_of_mem hm) fun i hi=>?_
  exact An (Ph (w_sub (at6 (Am rfl ⟨.int i,N0.dict e3 hk (Tm H.nd hi),q1 i hi⟩))))
 ·rw [decide_eq_false hm]
  have hlen:=H.len
  have h6:(st.set 5 (.list (rows++[r])))[6]?=some (.dict (idxOf rows)):=by rw [List.getElem?_set_ne (by decide)];exact e3
  have h4:(st.set 5 (.list (rows++[r])))[4]?=some (.inst 0 3):=by rw [List.getElem?_set_ne (by decide)];exact e0
  have h3:(st.set 5 (.list (rows++[r])))[3]?=some (.attrs tat):=by rw [List.getElem?_set_ne (by decide)];exact e1
  have e5:put (idxOf rows) r (.int rows.length)=idxOf (rows++[r]):=by unfold put;rw [Js hm,T4];rfl
  refine Rx (An (EU (Kw (IQ rfl (Ba (at5 rfl (Bc (.bi (.lenL e2 (Nat.le_trans hlen (by decide)) ?_)))))))))
  refine An (N4 (Ku (at5 rfl (.list e2 rfl (Ba (Am rfl (Bc (.app e2 (Nat.le_trans hlen (by decide)) ⟨.inl rfl,?_⟩))))))))
  refine An (H4 (Am rfl (IR (Am rfl (Jl.mk h4 h3 rfl rfl (Am rfl (.dict h6 hk ?_ (An (Ph (Am rfl ?_))))))))))
  ·rw [show (idxOf rows).length=rows.length from (List.length_map _).trans List.length_zipIdx];omega
  ·rw [e5];exact q2 hm
end Mine.V
end
section
namespace Mine.V
open PySem
inductive VV where
 | imm (p:PV) | tup (l:List VV) | lst (l:List VV) | dct (l:List (Int×Int)) | tab | host | rws | dd
inductive VS where
 | val (v:VV) | own (l:List VV) | ownD (l:List (Int×Int))
noncomputable abbrev VL:=List (Option VS)
structure G where
 rows:List PV
 pos:Nat
 scr:List Int
 np:Nat:=0
noncomputable abbrev VC:=PV→List VV→G→Option (VV×G)
noncomputable section
section
variable {α:Type}
noncomputable def pI (p:PV) (k:Int→Option α):Option α:=match p with
 | .int i=>k i
 | _=>none
noncomputable def pB (p:PV) (k:Bool→Option α):Option α:=match p with
 | .bool i=>k i
 | _=>none
noncomputable def pT (p:PV) (k:List PV→Option α):Option α:=match p with
 | .tup i=>k i
 | _=>none
noncomputable def Uo (v:VV) (k:PV→Option α):Option α:=match v with
 | .imm p=>k p
 | _=>none
noncomputable def YX (v:VV) (k:List VV→Option α):Option α:=match v with
 | .lst l=>k l
 | _=>none
noncomputable def asD (v:VV) (k:List (Int×Int)→Option α):Option α:=match v with
 | .dct l=>k l
 | _=>none
noncomputable def MK (v:VV) (k:Int→Option α):Option α:=Uo v fun p=>pI p k
noncomputable def TU {β:Type} (o:Option β) (f:β→Option α) (d:Option α):Option α:=match o with
 | some b=>f b
 | none=>d
noncomputable def GN {β:Type} (vs:List β) (k:β→Option α):Option α:=match vs with
 | []=>none
 | v::r=>match r with
  | []=>k v
  | _::_=>none
noncomputable def MR {β:Type} (vs:List β) (k:β→β→Option α):Option α:=match vs with
 | []=>none
 | v::r=>GN r (k v)
end
noncomputable def F7:List VV→Option (List PV)
 | []=>some []
 | v::r=>Uo v fun p=>(F7 r).map (p::·)
noncomputable def FY:List PV→Option (List Int)
 | []=>some []
 | v::r=>pI v fun i=>(FY r).map (i::·)
noncomputable def Ly:List PV→Option (List Bool)
 | []=>some []
 | v::r=>pB v fun i=>(Ly r).map (i::·)
noncomputable def Cz (l:List VV):Option (List Int):=(F7 l).bind FY
noncomputable def IL (l:List VV):Option (List Bool):=(F7 l).bind Ly
noncomputable def mkTup (l:List VV):VV:=match F7 l with
 | some ps=>.imm (.tup ps)
 | none=>.tup l
noncomputable def insI (x:Int):List Int→List Int
 | []=>[x]
 | y::l=>if x≤y then x::y::l else y::insI x l
noncomputable def sortI (l:List Int):List Int:=l.foldr insI []
noncomputable def encD (l:List (Int×Int)):List (PV×PV):=l.map fun p=>(.int p.1,.int p.2)
noncomputable def putD (l:List (Int×Int)) (k v:Int):List (Int×Int) :=
 if k∈l.map (·.1) then l.map fun p=>if p.1=k then (p.1,v) else p else l++[(k,v)]
noncomputable def CT (l:List (Int×Int)):List (Int×Int) :=
 if (8∈l.map (·.1)∨14∈l.map (·.1))∧(9∈l.map (·.1)∨15∈l.map (·.1)) then putD (putD l 8 1) 9 1 else l
noncomputable def atI {α:Type} (l:List α) (i:Int):Option α :=
 if l.length≤100000 then (if 0≤i then l[i.toNat]? else if 0≤i+l.length then l[(i+l.length).toNat]? else none) else none
noncomputable def AAa (g:G) (i:Int):VV→Option VV
 | .imm p=>pT p fun l=>(atI l i).map .imm
 | .tup l=>atI l i
 | .lst l=>atI l i
 | .rws=>if 0≤i then (g.rows[i.toNat]?).map .imm else none
 | _=>none
noncomputable def GG (g:G) (o k:VV):Option VV:=MK k fun i=>AAa g i o
noncomputable def eqP (p q:PV):Option Bool:=match p with
 | .int a=>pI q fun b=>some (decide (a=b))
 | .bool a=>pB q fun b=>some (decide (a=b))
 | .tup a=>pT q fun b=>(FY a).bind fun a=>(FY b).map fun b=>decide (a=b)
 | _=>none
noncomputable def YK (a b:VV):Option Bool:=match a with
 | .imm p=>Uo b (eqP p)
 | .lst a=>YX b fun b=>(Cz a).bind fun a=>(Cz b).map fun b=>decide (a=b)
 | _=>none
noncomputable def inV (a b:VV):Option Bool:=MK a fun x=>match b with
 | .imm p=>pT p fun l=>(FY l).map fun l=>decide (x∈l)
 | .lst l=>(Cz l).map fun l=>decide (x∈l)
 | .dct l=>some (decide (x∈l.map (·.1)))
 | _=>none
noncomputable def isNone:VV→Option Bool
 | .imm p=>match p with
  | .none=>some true
  | .int _=>some false
  | _=>none
 | .lst _=>some false
 | _=>none
noncomputable def asN {α:Type} (v:VV) (k:Option α):Option α:=Uo v fun p=>match p with
 | .none=>k
 | _=>none
noncomputable def ltV (f:Int→Int→Bool) (a b:VV):Option Bool:=MK a fun x=>MK b fun y=>some (f x y)
noncomputable def EP (op:CmpOp) (a b:VV):Option Bool:=match op with
 | .Eq=>YK a b
 | .NotEq=>(YK a b).map (!·)
 | .Lt=>ltV (fun x y=>decide (x<y)) a b
 | .LtE=>ltV (fun x y=>decide (x≤y)) a b
 | .Gt=>ltV (fun x y=>decide (y<x)) a b
 | .GtE=>ltV (fun x y=>decide (y≤x)) a b
 | .In=>inV a b
 | .NotIn=>(inV a b).map (!·)
 | .Is=>asN b (isNone a)
 | .IsNot=>asN b ((isNone a).map (!·))
noncomputable def UF {α:Type} (l:List α):Option Bool:=if l.length≤100000 then some !l.isEmpty else none
noncomputable def Xe:PV→Option Bool
 | .none=>some false
 | .bool b=>some b
 | .int i=>some (decide (i≠0))
 | .tup l=>UF l
 | _=>none
noncomputable def Ch:VV→Option Bool
 | .imm p=>Xe p
 | .tup l=>UF l
 | .lst l=>UF l
 | _=>none
noncomputable def ABL (op:Operator) (p q:PV):Option VV:=match p with
 | .int x=>pI q fun y=>(intOp op x y).map fun z=>.imm (.int z)
 | .str x=>match q with
  | .str y=>if op=.Add∧x.length+y.length≤1000 then some (.imm (.str (x++y))) else none
  | _=>none
 | _=>none
noncomputable def Hz (op:Operator) (a b:VV):Option VV:=match a with
 | .imm p=>Uo b (ABL op p)
 | .lst a=>YX b fun b=>if op=.Add∧a.length+b.length≤100000 then some (.lst (a++b)) else none
 | _=>none
noncomputable def YC:PV→Option (List VV)
 | .tup l=>some (l.map .imm)
 | .rng lo hi=>if (-1000000≤lo∧lo≤1000000)∧-1000000≤hi∧hi≤1000000 then some ((EZ lo hi).map .imm) else none
 | _=>none
noncomputable def Bs:VV→Option (List VV)
 | .imm p=>YC p
 | .tup l=>some l
 | .lst l=>some l
 | _=>none
noncomputable def FM:List Int→Int
 | []=>0
 | [a]=>a
 | a::l=>let b:=FM l;if a<b then b else a
noncomputable def M4:List Int→Int
 | []=>0
 | [a]=>a
 | a::l=>let b:=M4 l;if b<a then b else a
noncomputable def To (n:Nat):Option VV:=if n≤100000 then some (.imm (.int n)) else none
noncomputable def AAm:VV→Option VV
 | .imm p=>pT p fun l=>To l.length
 | .tup l=>To l.length
 | .lst l=>To l.length
 | .dct l=>To l.length
 | _=>none
noncomputable def YJ (f:List Int→Int) (v:VV):Option VV:=YX v fun l=>(Cz l).bind fun ns=>if ns≠[]∧ns.length≤100000 then some (.imm (.int (f ns))) else none
noncomputable def AAY:VV→Option VV
 | .lst l=>if l.length≤100000 then some (mkTup l) else none
 | .imm p=>pT p fun l=>some (.imm (.tup l))
 | _=>none
noncomputable def L7 (b:Bi) (vs:List VV):Option VV:=match b with
 | .len=>GN vs AAm
 | .range=>match vs with
  | []=>none
  | v::r=>MK v fun m=>match r with
   | []=>some (.imm (.rng 0 m))
   | _::_=>GN r fun w=>MK w fun n=>some (.imm (.rng m n))
 | .max=>match vs with
  | []=>none
  | v::r=>match r with
   | []=>YJ FM v
   | _::_=>MK v fun a=>GN r fun w=>MK w fun b=>some (.imm (.int (if a<b then b else a)))
 | .min=>GN vs (YJ M4)
 | .sorted=>GN vs fun v=>asD v fun l=>if l.length<64 then some (.lst ((sortI (l.map (·.1))).map fun i=>.imm (.int i))) else none
 | .all=>GN vs fun v=>YX v fun l=>(IL l).bind fun bs=>if bs.length≤100000 then some (.imm (.bool (bs.all id))) else none
 | .tuple=>GN vs AAY
 | .str=>GN vs fun v=>MK v fun n=>if 0≤n∧n≤100000 then some (.imm (.str (Str.ofString (toString n)))) else none
noncomputable def NL (l:List (Int×Int)) (k:Int) (d:VV):VV:=((l.find? fun p=>p.1==k).map fun p=>VV.imm (.int p.2)).getD d
noncomputable def UE (σ:VL):List Nat→List VV→VL
 | [],_=>σ
 | i::l,vs=>match vs with
  | []=>σ
  | v::vs=>UE (σ.set i (some (.val v))) l vs
noncomputable def bindM (σ:VL) (l:List Nat) (vs:List VV) (n:Nat):Option VL:=if l.length=n then some (UE σ l vs) else none
noncomputable def B3 (t:PT) (v:VV) (σ:VL):Option VL:=match t with
 | .one i=>some (σ.set i (some (.val v)))
 | .many l=>match v with
  | .imm p=>pT p fun ps=>bindM σ l (ps.map .imm) ps.length
  | .tup vs=>bindM σ l vs vs.length
  | _=>none
section
variable {α:Type}
noncomputable def TI (e:PE) (k:Nat→Option α):Option α:=if h:e.ctorIdx=0 then PE.loc.elim (motive_1:=fun _=>Option α) e h k else none
noncomputable def qGl (e:PE) (k:Nat→Option α):Option α:=if h:e.ctorIdx=5 then PE.gl.elim (motive_1:=fun _=>Option α) e h k else none
noncomputable def Wr (e:PE) (k:PE→List PE→Option α):Option α:=if h:e.ctorIdx=14 then PE.call.elim (motive_1:=fun _=>Option α) e h k else none
noncomputable def Wo (e:PE) (k:PE→Nat→List PE→Option α):Option α:=if h:e.ctorIdx=15 then PE.meth.elim (motive_1:=fun _=>Option α) e h k else none
noncomputable def Wp (e:PE) (k:List PE→Option α):Option α:=if h:e.ctorIdx=7 then PE.list.elim (motive_1:=fun _=>Option α) e h k else none
noncomputable def Wq (e:PE) (k:List (Nat×Int)→Option α):Option α:=if h:e.ctorIdx=8 then PE.dict.elim (motive_1:=fun _=>Option α) e h k else none
end
noncomputable def Ck (σ:VL) (i:Nat):Option VS:=match σ[i]? with
 | some s=>s
 | none=>none
noncomputable def Mq:VS→Option VV
 | .val _=>none
 | .own l=>some (.lst l)
 | .ownD l=>some (.dct l)
noncomputable def peek (σ:VL) (e:PE):Option VV:=TI e fun i=>(Ck σ i).bind Mq
noncomputable def Mo (σ:VL) (es:List PE):Option VV:=GN es (peek σ)
noncomputable def BQ (elt:VL→G→Option (VV×G)) (cond:VL→G→Option (Bool×G)) (t:PT) (σ:VL):List VV→List VV→G→Option (List VV×G)
 | [],out,g=>some (out,g)
 | x::xs,out,g=>(B3 t x σ).bind fun σ'=>(cond σ' g).bind fun r =>
  if r.1 then (elt σ' r.2).bind fun y=>if out.length≤100000 then BQ elt cond t σ xs (out++[y.1]) y.2 else none
  else BQ elt cond t σ xs out r.2
noncomputable def YF (l:List (Int×Int)) (m:Nat) (vs:List VV) (g:G):Option (VV×G):=if m=1 then MR vs fun k d=>MK k fun k=>some (NL l k d,g) else none
noncomputable def Th (C:VC) (b:VV) (m:Nat) (vs:List VV) (g:G):Option (VV×G):=match b with
 | .tab=>if m=2 then C (.fn 1) (.tab::vs) g else none
 | .host=>if m=3 then C (.fn 3) (.host::vs) g else none
 | .dct l=>YF l m vs g
 | .imm p=>match p with
  | .fd l=>YF l m vs g
  | _=>none
 | _=>none
noncomputable def Wl (o k:VV):Option VV:=YX o fun l=>MK k fun n=>if 0≤n∧n≤1000000∧l.length≤100000 then some (.lst (l.take n.toNat)) else none
noncomputable def LB (o k:VV):Option VV:=MK k fun n=>match o with
 | .imm p=>pT p fun l=>if 0≤n∧n≤l.length∧l.length≤100000 then some (.imm (.tup (l.drop n.toNat))) else none
 | .lst l=>if n=-1∧l≠[]∧l.length≤100000 then some (.lst (l.drop (l.length-1))) else none
 | _=>none
noncomputable def Y4 (o:VV):Option VV:=YX o fun l=>if l.length≤100000 then some (.lst l.reverse) else none
noncomputable def Z3 (o:VV) (a:Nat):Option VV:=match o with
 | .tab=>if a=4 then some .rws else none
 | .host=>if a=14 then some .tab else none
 | _=>none
noncomputable def P6 (r:VV×G):Option (VV×G):=Uo r.1 fun _=>some r
noncomputable def bi? (h:PV):Option Bi:=match h with
 | .bi b=>some b
 | _=>none
noncomputable def QW (C:VC) (h:PV) (vs:List VV) (g:G):Option (VV×G):=TU (bi? h) (fun b=>(L7 b vs).map fun v=>(v,g)) (C h vs g)
noncomputable def QV (C:VC) (h:PV) (a:VV) (g:G):Option (VV×G):=TU (bi? h) (fun b=>(L7 b [a]).map fun v=>(v,g)) ((C h [a] g).bind P6)
mutual
noncomputable def VE (C:VC):PE→VL→G→Option (VV×G)
 | .loc i,σ,g=>(Ck σ i).bind fun s=>match s with
  | .val v=>some (v,g)
  | _=>none
 | .int i,_,g=>some (.imm (.int i),g)
 | .str y,_,g=>some (.imm (.str y),g)
 | .bool b,_,g=>some (.imm (.bool b),g)
 | .none,_,g=>some (.imm .none,g)
 | .gl k,_,g=>some (.imm (Ra.getD k .none),g)
 | .tup es,σ,g=>(Ny C es σ g).bind fun r=>some (mkTup r.1,r.2)
 | .list es,σ,g=>(Ny C es σ g).bind fun r=>some (.lst r.1,r.2)
 | .dict _,_,_=>none
 | .attr e a,σ,g=>(VE C e σ g).bind fun r=>(Z3 r.1 a).map fun v=>(v,r.2)
 | .sub e i,σ,g=>TU (peek σ e) (fun o=>(VE C i σ g).bind fun k=>(GG k.2 o k.1).map fun v=>(v,k.2)) ((VE C e σ g).bind fun o=>(VE C i σ o.2).bind fun k=>(GG k.2 o.1 k.1).map fun v=>(v,k.2))
 | .slTo e h,σ,g=>(VE C e σ g).bind fun o=>(VE C h σ o.2).bind fun k=>(Wl o.1 k.1).map fun v=>(v,k.2)
 | .slFrom e h,σ,g=>(VE C e σ g).bind fun o=>(VE C h σ o.2).bind fun k=>(LB o.1 k.1).map fun v=>(v,k.2)
 | .rev e,σ,g=>(VE C e σ g).bind fun o=>(Y4 o.1).map fun v=>(v,o.2)
 | .call f as,σ,g=>(VE C f σ g).bind fun f=>Uo f.1 fun h=>TU (Mo σ as) (fun a=>QV C h a f.2) ((Ny C as σ f.2).bind fun r=>QW C h r.1 r.2)
 | .meth o m as,σ,g=>(VE C o σ g).bind fun b=>(Ny C as σ b.2).bind fun r=>Th C b.1 m r.1 r.2
 | .bin op a b,σ,g=>(VE C a σ g).bind fun u=>(VE C b σ u.2).bind fun v=>(Hz op u.1 v.1).map fun z=>(z,v.2)
 | .cmp op a b,σ,g=>(VE C a σ g).bind fun u=>(VE C b σ u.2).bind fun v=>(EP op u.1 v.1).map fun z=>(.imm (.bool z),v.2)
 | .bop op es,σ,g=>VEb C op es σ g
 | .not e,σ,g=>(VE C e σ g).bind fun u=>(Ch u.1).map fun b=>(.imm (.bool !b),u.2)
 | .ite c a b,σ,g=>(VT C c (VE C c) σ g).bind fun t=>if t.1 then VE C a σ t.2 else VE C b σ t.2
 | .comp elt t it cond,σ,g=>(VE C it σ g).bind fun v=>(Bs v.1).bind fun its =>
  (BQ (VE C elt) (VT C cond (VE C cond)) t σ its [] v.2).map fun r=>(.lst r.1,r.2)
 | .stuck,_,_=>none
noncomputable def Ny (C:VC):List PE→VL→G→Option (List VV×G)
 | [],_,g=>some ([],g)
 | e::es,σ,g=>(VE C e σ g).bind fun v=>(Ny C es σ v.2).map fun vs=>(v.1::vs.1,vs.2)
noncomputable def VEb (C:VC) (op:BoolOp):List PE→VL→G→Option (VV×G)
 | [],_,_=>none
 | e::es,σ,g=>match es with
  | []=>VE C e σ g
  | _::_=>(VE C e σ g).bind fun v=>(Ch v.1).bind fun b=>if b=(op==.Or) then some v else VEb C op es σ v.2
noncomputable def VT (C:VC):PE→(VL→G→Option (VV×G))→VL→G→Option (Bool×G)
 | .not e,_,σ,g=>(VT C e (VE C e) σ g).map fun b=>(!b.1,b.2)
 | .bop op es,_,σ,g=>VTb C op es σ g
 | .ite c a b,_,σ,g=>(VT C c (VE C c) σ g).bind fun t=>if t.1 then VT C a (VE C a) σ t.2 else VT C b (VE C b) σ t.2
 | _,w,σ,g=>(w σ g).bind fun v=>(Ch v.1).map fun b=>(b,v.2)
noncomputable def VTb (C:VC) (op:BoolOp):List PE→VL→G→Option (Bool×G)
 | [],_,g=>some (op==.And,g)
 | e::es,σ,g=>(VT C e (VE C e) σ g).bind fun b=>if b.1=(op==.Or) then some b else VTb C op es σ b.2
end
noncomputable def AAp (k:Nat):Bool:=(bi? (Ra.getD k .none)).isSome
noncomputable def Zq (f:PE) (as:List PE) (ls:List Nat):List Nat:=match f with
 | .gl k=>match as with
  | []=>ls
  | a::r=>match r with
   | _::_=>ls
   | []=>match a with
    | .loc _=>if AAp k∨k=39 then [] else ls
    | _=>ls
 | _=>ls
mutual
noncomputable def locs:PE→List Nat
 | .loc i=>[i]
 | .tup es=>FX es
 | .list es=>FX es
 | .attr e _=>locs e
 | .sub e i=>match e with
  | .loc _=>locs i
  | _=>locs e++locs i
 | .slTo e h=>locs e++locs h
 | .slFrom e h=>locs e++locs h
 | .rev e=>locs e
 | .call f as=>Zq f as (FX as)
 | .meth o _ as=>locs o++FX as
 | .bin _ a b=>locs a++locs b
 | .cmp _ a b=>locs a++locs b
 | .bop _ es=>FX es
 | .not e=>locs e
 | .ite c a b=>locs c++locs a++locs b
 | .comp elt _ it cond=>locs it++locs elt++locs cond
 | _=>[]
noncomputable def FX:List PE→List Nat
 | []=>[]
 | e::es=>locs e++FX es
end
noncomputable def W7 (σ:VL) (i:Nat):VL:=match (Ck σ i).bind Mq with
 | some v=>σ.set i (some (.val v))
 | none=>σ
noncomputable def fz (ls:List Nat) (σ:VL):VL:=ls.foldl W7 σ
inductive U1 where
 | next | ret (v:VV)
noncomputable abbrev VR:=Option (U1×VL×G)
noncomputable def OV:List (Nat×Int)→Option (List (Int×Int))
 | []=>some []
 | p::r=>pI (Ra.getD p.1 .none) fun k=>(OV r).map ((k,p.2)::·)
noncomputable def AU (body:VL→G→VR) (t:PT):List VV→VL→G→VR
 | [],σ,g=>some (.next,σ,g)
 | y::ys,σ,g=>(B3 t y σ).bind fun σ=>(body σ g).bind fun r=>match r.1 with
  | .next=>AU body t ys r.2.1 r.2.2
  | .ret v=>some (.ret v,r.2.1,r.2.2)
noncomputable def CO (c:VL→G→Option (Bool×G)) (ls:List Nat) (body:VL→G→VR):Nat→VL→G→VR
 | 0,_,_=>none
 | n+1,σ,g=>(c (fz ls σ) g).bind fun b=>if b.1 then (body (fz ls σ) b.2).bind fun r=>match r.1 with
   | .next=>CO c ls body n r.2.1 r.2.2
   | .ret v=>some (.ret v,r.2.1,r.2.2)
  else some (.next,fz ls σ,b.2)
noncomputable def OS (C:VC) (i:Nat) (e:PE) (σ:VL) (g:G):VR:=(VE C e σ g).bind fun r=>some (.next,σ.set i (some (.val r.1)),r.2)
noncomputable def Wx (C:VC) (i:Nat) (es:List PE) (σ:VL) (g:G):VR:=(Ny C es σ g).bind fun r=>some (.next,σ.set i (some (.own r.1)),r.2)
noncomputable def W9 (i:Nat) (es:List (Nat×Int)) (σ:VL) (g:G):VR:=(OV es).bind fun kvs=>if kvs.length≤10 then some (.next,σ.set i (some (.ownD (kvs.foldl (fun d p=>putD d p.1 p.2) []))),g) else none
noncomputable def Qd (C:VC) (i:Nat) (e:PE) (σ:VL) (g:G):VR:=TU (Wp e some) (fun es=>Wx C i es (fz (FX es) σ) g) (TU (Wq e some) (fun es=>W9 i es σ g) (OS C i e (fz (locs e) σ) g))
noncomputable def AAc (j:Nat) (σ:VL) (u v:VV) (g:G):VR:=(Ck σ j).bind fun s=>match s with
 | .ownD l=>MK u fun y=>MK v fun x=>if l.length≤100000 then some (.next,σ.set j (some (.ownD (putD l x y))),g) else none
 | _=>none
noncomputable def Se (C:VC) (j:Nat) (k e:PE) (σ:VL) (g:G):VR:=(VE C e σ g).bind fun u=>(VE C k σ u.2).bind fun v=>AAc j σ u.1 v.1 v.2
noncomputable def AAA (C:VC) (i:Nat) (a:PE) (σ:VL) (g:G):VR:=(VE C a σ g).bind fun r=>(Ck σ i).bind fun s=>match s with
 | .own l=>if l.length≤100000 then some (.next,σ.set i (some (.own (l++[r.1]))),r.2) else none
 | _=>none
noncomputable def W0 (C:VC) (i:Nat) (σ:VL) (g:G):VR:=(Ck σ i).bind fun s=>match s with
 | .ownD l=>if l.length≤1000 then (C (.fn 18) [.dct l] g).bind fun _=>some (.next,σ.set i (some (.ownD (CT l))),g) else none
 | _=>none
noncomputable def doV (C:VC) (e:PE) (σ:VL) (g:G):VR:=(VE C e σ g).bind fun r=>Uo r.1 fun p=>match p with
 | .none=>some (.next,σ,r.2)
 | .int _=>some (.next,σ,r.2)
 | _=>none
noncomputable def ZP (e:PE):Option (Nat×PE):=Wo e fun o m as=>if m=0 then TI o fun i=>GN as fun a=>some (i,a) else none
noncomputable def YD (e:PE):Option Nat:=Wr e fun f as=>qGl f fun k=>if k=40 then GN as fun a=>TI a some else none
noncomputable def W8 (C:VC) (e:PE) (σ:VL) (g:G):VR:=TU (ZP e) (fun p=>AAA C p.1 p.2 (fz (locs p.2) σ) g) (TU (YD e) (fun i=>W0 C i σ g) (doV C e (fz (locs e) σ) g))
noncomputable def ABI (C:VC) (i:Nat) (op:Operator) (e:PE) (σ:VL) (g:G):VR:=(Ck σ i).bind fun s=>match s with
 | .val u=>MK u fun u=>(VE C e σ g).bind fun r=>MK r.1 fun y=>(intOp op u y).map fun z=>(.next,σ.set i (some (.val (.imm (.int z)))),r.2)
 | _=>none
mutual
noncomputable def VX (C:VC):PS→VL→G→VR
 | .assign i e,σ,g=>Qd C i e σ g
 | .assignT l e,σ,g=>(VE C e (fz (locs e) σ) g).bind fun r=>(B3 (.many l) r.1 (fz (locs e) σ)).map fun σ'=>(.next,σ',r.2)
 | .assign2 i j a b,σ,g=>(VE C a (fz (locs a++locs b) σ) g).bind fun u=>(VE C b (fz (locs a++locs b) σ) u.2).bind fun v =>
  some (.next,((fz (locs a++locs b) σ).set j (some (.val v.1))).set i (some (.val u.1)),v.2)
 | .store o k e,σ,g=>TI o fun j=>Se C j k e (fz (locs e++locs k) σ) g
 | .setat _ _ _,_,_=>none
 | .aug i op e,σ,g=>ABI C i op e (fz (locs e) σ) g
 | .ret e,σ,g=>(VE C e (fz (locs e) σ) g).map fun r=>(.ret r.1,fz (locs e) σ,r.2)
 | .expr e,σ,g=>W8 C e σ g
 | .ite c t f,σ,g=>(VT C c (VE C c) (fz (locs c) σ) g).bind fun b=>if b.1 then Bv C t (fz (locs c) σ) b.2 else Bv C f (fz (locs c) σ) b.2
 | .loop t it body,σ,g=>(VE C it (fz (locs it) σ) g).bind fun v=>(Bs v.1).bind fun its=>AU (Bv C body) t its (fz (locs it) σ) v.2
 | .whl c body,σ,g=>CO (VT C c (VE C c)) (locs c) (Bv C body) 64 σ g
 | .stuck,_,_=>none
noncomputable def Bv (C:VC):List PS→VL→G→VR
 | [],σ,g=>some (.next,σ,g)
 | s::r,σ,g=>(VX C s σ g).bind fun b=>match b.1 with
  | .next=>Bv C r b.2.1 b.2.2
  | .ret v=>some (.ret v,b.2.1,b.2.2)
end
open Classical in
noncomputable def Br (g:G) (r:PV):Option (VV×G) :=
 if r.isTup=true∧r.plain=true∧g.rows.length<50000 then
  if r∈g.rows then some (.imm (.int (g.rows.findIdx fun x=>decide (x=r):Nat)),g)
  else some (.imm (.int (g.rows.length:Nat)),{ g with rows:=g.rows++[r] })
 else none
noncomputable def Wj (g:G) (n:Int):Option (VV×G) :=
 if 0<n∧g.scr.length≤100000 then
  some (.imm (.int ((match g.scr[g.pos]? with | some x=>x | none=>(g.pos:Int)).fmod n)),{ g with pos:=g.pos+1 })
 else none
noncomputable def IX (f:Fn) (vs:List VV):Option VL :=
 if vs.length≤f.np∧f.np≤vs.length+f.dflt.length then
  some ((vs++(f.dflt.drop (f.dflt.length-(f.np-vs.length))).map VV.imm).map (fun v=>some (VS.val v))++List.replicate (f.slots-f.np) none)
 else none
noncomputable def Qf {α:Type} (v:VV) (k:Option α):Option α:=match v with
 | .tab=>k
 | _=>none
noncomputable def Z8 {α:Type} (v:VV) (k:Option α):Option α:=match v with
 | .dd=>k
 | _=>none
noncomputable def Xw (n:Nat) (i:Nat) (vs:List VV) (g:G):Option (VV×G) :=
 if i=1 then MR vs fun a r=>Qf a (Uo r fun r=>Br g r)
 else if i=55 then MR vs fun a r=>Z8 a (MK r fun k=>Wj g k)
 else MR vs fun a r=>Qf a (Uo r fun _=>if n≠0∧g.np≤1000 then Br { g with np:=g.np+1 } (.tup [.int 10,.int g.np]) else none)
noncomputable def YL (r:U1×VL×G):Option (VV×G):=match r.1 with
 | .ret v=>some (v,r.2.2)
 | .next=>some (.imm .none,r.2.2)
noncomputable def AA:Nat→VC
 | 0=>fun _ _ _=>none
 | n+1=>fun h vs g=>match h with
  | .fn i=>if i=1∨i=55∨i=12 then Xw n i vs g else (QP[i]?).bind fun f=>(IX f vs).bind fun σ=>(Bv (AA n) f.body σ g).bind YL
  | .cls c=>if c=1∧n≠0 then GN vs fun a=>Qf a (some (.host,g)) else none
  | _=>none
noncomputable abbrev sv (v:VV):Option VS:=some (.val v)
end
end Mine.V
end
section
namespace Mine.V
open PySem
open scoped Classical
inductive EX {α:Type} (P Q:α→Prop):Prop
 | mk (a:α) (p:P a) (q:Q a):EX P Q
noncomputable section
noncomputable def Ov:List (Nat×PV):=[(14,.obj 4),(15,.int 0),(16,.int 200),(17,.int 40),(18,.none)]
mutual
noncomputable def Rel (O:List Nat) (st:St):VV→PV→Prop
 | .imm p,q=>q=p
 | .tup l,q=>∃ ps,q=.tup ps∧AT O st l ps
 | .lst l,q=>∃ i ps,q=.obj i∧i∉O∧st[i]?=some (.list ps)∧AT O st l ps
 | .dct l,q=>∃ i,q=.obj i∧i∉O∧st[i]?=some (.dict (encD l))
 | .tab,q=>q=.obj 4
 | .host,q=>∃ h d,q=.obj h∧h∉O∧d∉O∧st[h]?=some (.inst 1 d)∧st[d]?=some (.attrs Ov)
 | .rws,q=>q=.obj 5
 | .dd,q=>q=.obj 2
noncomputable def AT (O:List Nat) (st:St):List VV→List PV→Prop
 | [],[]=>True
 | v::vs,p::ps=>Rel O st v p∧AT O st vs ps
 | _,_=>False
end
structure Ar (O:List Nat) (st st':St):Prop where
 len:st.length≤st'.length
 old:∀ i o,i∉O→st[i]?=some o→st'[i]?=some o
noncomputable def B:List Nat:=[2,5,6,8,9,10]
theorem Wd:∀ i∈B,i<13:=by decide
theorem Ar.refl {O:List Nat} {st:St}:Ar O st st:=⟨Nat.le_refl _,fun _ _ _ h=>h⟩
theorem Ar.trans {O O':List Nat} {a b c:St} (h:Ar O a b) (h':Ar O' b c) (hs:∀ i∈O',i∈O∨a.length≤i):Ar O a c :=
 ⟨Nat.le_trans h.len h'.len,fun i o hi e=>h'.old i o (fun hm=>(hs i hm).elim hi (fun hl=>by
  have:=(gI e).1;omega)) (h.old i o hi e)⟩
theorem Ar.trans' {O:List Nat} {a b c:St} (h:Ar O a b) (h':Ar O b c):Ar O a c:=h.trans h' fun _ h=>.inl h
theorem Ar.mono {O O':List Nat} {a b:St} (h:Ar O a b) (hs:∀ i∈O,i∈O'):Ar O' a b:=⟨h.len,fun i o hi=>h.old i o fun hm=>hi (hs i hm)⟩
theorem Ar.app {O:List Nat} {st x:St}:Ar O st (st++x):=⟨by simp,fun i o _ h=>by rw [List.getElem?_append_left (gI h).1];exact h⟩
theorem Ar.set {O:List Nat} {st:St} {j:Nat} {o:PO} (hj:j∈O):Ar O st (st.set j o):=⟨by simp,fun i o hi h=>by
 rw [List.getElem?_set_ne (fun e=>by subst e;exact hi hj)];exact h⟩
theorem nin {O O':List Nat} {st:St} (hs:∀ i∈O',i∈O∨st.length≤i) {i:Nat} {o:PO} (hi:i∉O) (hg:st[i]?=some o):i∉O':=fun hm =>
 (hs _ hm).elim hi fun hl=>by have:=(gI hg).1;omega
theorem H8 {O:List Nat} {st:St} {p:PV}:Rel O st (.imm p) p:=(rfl:p=p)
theorem P1 {O:List Nat} {st:St} {l:List VV} {ps:List PV} (h:AT O st l ps):Rel O st (.tup l) (.tup ps):=Exists.intro ps ⟨rfl,h⟩
theorem LF {O:List Nat} {st:St} {l:List VV} {i:Nat} {ps:List PV} (hi:i∉O) (hg:st[i]?=some (.list ps)) (h:AT O st l ps):Rel O st (.lst l) (.obj i):=Exists.intro i (Exists.intro ps ⟨rfl,hi,hg,h⟩)
theorem P3 {O:List Nat} {st:St} {l:List (Int×Int)} {i:Nat} (hi:i∉O) (hg:st[i]?=some (.dict (encD l))):Rel O st (.dct l) (.obj i):=Exists.intro i ⟨rfl,hi,hg⟩
theorem Ie {O:List Nat} {st:St} {a d:Nat} (ha:a∉O) (hd:d∉O) (h1:st[a]?=some (.inst 1 d)) (h2:st[d]?=some (.attrs Ov)):Rel O st .host (.obj a):=Exists.intro a (Exists.intro d ⟨rfl,ha,hd,h1,h2⟩)
theorem AT.unnil {O:List Nat} {st:St} {ps:List PV} (h:AT O st [] ps):ps=[]:=by cases ps with
 | nil=>rfl
 | cons _ _=>exact h.elim
theorem AT.uncons {O:List Nat} {st:St} {v:VV} {vs:List VV} {ps:List PV} (h:AT O st (v::vs) ps):∃ p r,ps=p::r∧Rel O st v p∧AT O st vs r:=by cases ps with
 | nil=>exact h.elim
 | cons p r=>exact ⟨p,r,rfl,h⟩
theorem AT.cons {O:List Nat} {st:St} {v:VV} {vs:List VV} {p:PV} {ps:List PV} (h:Rel O st v p) (hs:AT O st vs ps):AT O st (v::vs) (p::ps):=And.intro h hs
theorem AT.nil {O:List Nat} {st:St}:AT O st [] []:=trivial
mutual
theorem Rel.mono {O O':List Nat} {st st':St} (hs:∀ i∈O',i∈O∨st.length≤i) (hk:Ar O st st'):∀ (v:VV) (p:PV),Rel O st v p→Rel O' st' v p
 | .imm _,_,h=>h
 | .tup l,_,h=>by
  obtain ⟨ps,rfl,h⟩:=h
  exact P1 (AT.mono hs hk l ps h)
 | .lst l,_,h=>by
  obtain ⟨i,ps,rfl,hi,hg,h⟩:=h
  exact LF (nin hs hi hg) (hk.old _ _ hi hg) (AT.mono hs hk l ps h)
 | .dct l,_,h=>by
  refine oEAA h fun i z0 hi hg=>?_;subst z0
  exact P3 (nin hs hi hg) (hk.old _ _ hi hg)
 | .tab,_,h=>h
 | .host,_,h=>by
  refine oEEAAAA h fun a d z0 ha hd h1 h2=>?_;subst z0
  exact Ie (nin hs ha h1) (nin hs hd h2) (hk.old _ _ ha h1) (hk.old _ _ hd h2)
 | .rws,_,h=>h
 | .dd,_,h=>h
theorem AT.mono {O O':List Nat} {st st':St} (hs:∀ i∈O',i∈O∨st.length≤i) (hk:Ar O st st'):∀ (l:List VV) (ps:List PV),AT O st l ps→AT O' st' l ps
 | [],ps,h=>by rw [h.unnil];exact .nil
 | v::vs,ps,h=>by
  refine oEEAA (h.uncons) fun p r z0 a b=>?_;subst z0
  exact .cons (Rel.mono hs hk v p a) (AT.mono hs hk vs r b)
end
theorem Rel.keep {O:List Nat} {st st':St} {v:VV} {p:PV} (h:Rel O st v p) (hk:Ar O st st'):Rel O st' v p:=Rel.mono (fun _ h=>.inl h) hk v p h
theorem AT.keep {O:List Nat} {st st':St} {v:List VV} {p:List PV} (h:AT O st v p) (hk:Ar O st st'):AT O st' v p:=AT.mono (fun _ h=>.inl h) hk v p h
theorem Rel.anti {O O':List Nat} {st:St} {v:VV} {p:PV} (h:Rel O st v p) (hs:∀ i∈O',i∈O):Rel O' st v p:=Rel.mono (fun i hi=>.inl (hs i hi)) .refl v p h
theorem AT.anti {O O':List Nat} {st:St} {v:List VV} {p:List PV} (h:AT O st v p) (hs:∀ i∈O',i∈O):AT O' st v p:=AT.mono (fun i hi=>.inl (hs i hi)) .refl v p h
section
variable {O:List Nat} {st:St}
theorem AT.ind {M:List VV→List PV→Prop} (h0:M [] []) (h1:∀ v vs p ps,Rel O st v p→AT O st vs ps→M vs ps→M (v::vs) (p::ps)):∀ l ps,AT O st l ps→M l ps:=by
 intro l
 induction l with
 | nil=>intro ps h;rw [h.unnil];exact h0
 | cons v vs ih =>
  intro ps h
  refine oEEAA (h.uncons) fun p r z0 a b=>?_;subst z0
  exact h1 _ _ _ _ a b (ih _ b)
theorem AT.length {l:List VV} {ps:List PV} (h:AT O st l ps):l.length=ps.length:=AT.ind (M:=fun l ps=>l.length=ps.length) rfl (fun _ _ _ _ _ _ e=>congrArg (·+1) e) l ps h
theorem AT.get {l:List VV} {ps:List PV} (h:AT O st l ps) {k:Nat} {v:VV} (e:l[k]?=some v):∃ p,ps[k]?=some p∧Rel O st v p :=
 AT.ind (M:=fun l ps=>∀ k v,l[k]?=some v→∃ p,ps[k]?=some p∧Rel O st v p) (fun _ _ e=>by simp at e) (fun a vs p ps h1 _ ih k v e=>by
  cases k with
  | zero=>exact ⟨p,rfl,Option.some.inj e▸h1⟩
  | succ k=>exact ih k v e) l ps h k v e
theorem AT.imm (ps:List PV):AT O st (ps.map .imm) ps:=by
 induction ps with
 | nil=>exact .nil
 | cons p ps ih=>exact .cons (rfl:p=p) ih
section
variable {α:Type} {r:α}
theorem ZE {p:PV} {k:Int→Option α} (h:pI p k=some r):EX (fun i=>p=.int i) fun i=>k i=some r:=by
 cases p with
 | int i=>exact ⟨i,rfl,h⟩
 | _=>exact nO h
theorem pB_ {p:PV} {k:Bool→Option α} (h:pB p k=some r):EX (fun i=>p=.bool i) fun i=>k i=some r:=by
 cases p with
 | bool i=>exact ⟨i,rfl,h⟩
 | _=>exact nO h
theorem Xv {p:PV} {k:List PV→Option α} (h:pT p k=some r):EX (fun i=>p=.tup i) fun i=>k i=some r:=by
 cases p with
 | tup i=>exact ⟨i,rfl,h⟩
 | _=>exact nO h
theorem J3 {v:VV} {k:PV→Option α} (h:Uo v k=some r):EX (fun p=>v=.imm p) fun p=>k p=some r:=by
 cases v with
 | imm p=>exact ⟨p,rfl,h⟩
 | _=>exact nO h
theorem Ro {v:VV} {k:List VV→Option α} (h:YX v k=some r):EX (fun p=>v=.lst p) fun p=>k p=some r:=by
 cases v with
 | lst p=>exact ⟨p,rfl,h⟩
 | _=>exact nO h
theorem ABK {v:VV} {k:List (Int×Int)→Option α} (h:asD v k=some r):EX (fun p=>v=.dct p) fun p=>k p=some r:=by
 cases v with
 | dct p=>exact ⟨p,rfl,h⟩
 | _=>exact nO h
theorem Ez {v:VV} {k:Int→Option α} (h:MK v k=some r):EX (fun i=>v=.imm (.int i)) fun i=>k i=some r:=by
 obtain ⟨p,rfl,h1⟩:=J3 h
 obtain ⟨i,rfl,h2⟩:=ZE h1
 exact ⟨i,rfl,h2⟩
theorem DX {β:Type} {vs:List β} {k:β→Option α} (h:GN vs k=some r):∃ v,vs=[v]∧k v=some r:=by
 cases vs with
 | nil=>exact nO h
 | cons v l=>cases l with
  | nil=>exact ⟨v,rfl,h⟩
  | cons _ _=>exact nO h
theorem Pt {β:Type} {vs:List β} {k:β→β→Option α} (h:MR vs k=some r):∃ v w,vs=[v,w]∧k v w=some r:=by
 cases vs with
 | nil=>exact nO h
 | cons v l =>
  refine oEA (DX h) fun w z0 h2=>?_;subst z0
  exact ⟨v,w,rfl,h2⟩
theorem AP {β:Type} {o:Option β} {k:β→Option α} (h:o.bind k=some r):EX (fun b=>o=some b) fun b=>k b=some r:=(Option.bind_eq_some_iff.mp h).elim fun b e=>.mk b e.1 e.2
theorem BV {β:Type} {o:Option β} {k:β→α} (h:o.map k=some r):EX (fun b=>o=some b) fun b=>k b=r:=(oM h).elim fun b e=>.mk b e.1 e.2
theorem Wu {β:Type} {o:Option β} {f:β→Option α} {d:Option α} (h:TU o f d=some r):(∃ b,o=some b∧f b=some r)∨(o=none∧d=some r):=by
 cases o with
 | some b=>exact .inl ⟨b,rfl,h⟩
 | none=>exact .inr ⟨rfl,h⟩
theorem EO {p:Prop} [Decidable p] {x:Option α} (h:(if p then x else none)=some r):p∧x=some r:=by
 by_cases q:p
 ·rw [if_pos q] at h;exact ⟨q,h⟩
 ·rw [if_neg q] at h;exact nO h
end
theorem AT.of_imms {l:List VV}:∀ {ps qs:List PV},AT O st l ps→F7 l=some qs→ps=qs:=by
 induction l with
 | nil=>intro ps qs h e;rw [h.unnil];exact Option.some.inj e
 | cons v vs ih =>
  intro ps qs h e
  refine oEEAA (h.uncons) fun p r z0 a b=>?_;subst z0
  obtain ⟨q,rfl,e1⟩:=J3 e
  obtain ⟨qs',e2,rfl⟩:=BV e1
  rw [show p=q from a,ih b e2]
theorem Gj {l:List PV}:∀ {ns:List Int},FY l=some ns→l=ns.map .int:=by
 induction l with
 | nil=>intro ns e;obtain rfl:=sI e;rfl
 | cons v vs ih =>
  intro ns e
  obtain ⟨q,rfl,e1⟩:=ZE e
  obtain ⟨qs',e2,rfl⟩:=BV e1
  rw [ih e2];rfl
theorem Rl {l:List PV}:∀ {ns:List Bool},Ly l=some ns→l=ns.map .bool:=by
 induction l with
 | nil=>intro ns e;obtain rfl:=sI e;rfl
 | cons v vs ih =>
  intro ns e
  obtain ⟨q,rfl,e1⟩:=pB_ e
  obtain ⟨qs',e2,rfl⟩:=BV e1
  rw [ih e2];rfl
theorem AT.of_ints {l:List VV} {ps:List PV} {ns:List Int} (h:AT O st l ps) (e:Cz l=some ns):ps=ns.map .int:=by
 obtain ⟨qs,e1,e2⟩:=AP e
 rw [h.of_imms e1,Gj e2]
theorem AT.of_bools {l:List VV} {ps:List PV} {ns:List Bool} (h:AT O st l ps) (e:IL l=some ns):ps=ns.map .bool:=by
 obtain ⟨qs,e1,e2⟩:=AP e
 rw [h.of_imms e1,Rl e2]
theorem Rel.mkTup {l:List VV} {ps:List PV} (h:AT O st l ps):Rel O st (mkTup l) (.tup ps):=by
 unfold Mine.V.mkTup
 cases e:F7 l with
 | some qs=>rw [h.of_imms e];exact (rfl:PV.tup qs=.tup qs)
 | none=>exact P1 h
theorem AT.append {a:List VV} {ps:List PV} {b:List VV} {qs:List PV} (h:AT O st a ps) (h':AT O st b qs):AT O st (a++b) (ps++qs) :=
 AT.ind (M:=fun a ps=>AT O st (a++b) (ps++qs)) h' (fun _ _ _ _ x _ y=>.cons x y) a ps h
theorem AT.take {a:List VV} {ps:List PV} (n:Nat) (h:AT O st a ps):AT O st (a.take n) (ps.take n) :=
 AT.ind (M:=fun a ps=>∀ n:Nat,AT O st (a.take n) (ps.take n)) (fun n=>by cases n<;>exact .nil) (fun _ _ _ _ x _ y n=>by
  cases n with
  | zero=>exact .nil
  | succ n=>exact .cons x (y n)) a ps h n
theorem AT.drop {a:List VV} {ps:List PV} (n:Nat) (h:AT O st a ps):AT O st (a.drop n) (ps.drop n) :=
 AT.ind (M:=fun a ps=>∀ n:Nat,AT O st (a.drop n) (ps.drop n)) (fun n=>by cases n<;>exact .nil) (fun _ _ _ _ x z y n=>by
  cases n with
  | zero=>exact .cons x z
  | succ n=>exact y n) a ps h n
theorem AT.reverse {a:List VV} {ps:List PV} (h:AT O st a ps):AT O st a.reverse ps.reverse :=
 AT.ind (M:=fun a ps=>AT O st a.reverse ps.reverse) .nil (fun _ _ _ _ x _ y=>by
  rw [List.reverse_cons,List.reverse_cons];exact y.append (.cons x .nil)) a ps h
noncomputable def Sh (O:List Nat) (st:St):VV→PV→Prop
 | .lst l,q=>∃ i ps,q=.obj i∧st[i]?=some (.list ps)∧AT O st l ps
 | .dct l,q=>∃ i,q=.obj i∧st[i]?=some (.dict (encD l))
 | v,q=>Rel O st v q
theorem Rel.sh {v:VV} {p:PV} (h:Rel O st v p):Sh O st v p:=by
 cases v with
 | lst l=>refine oEEAAA h fun i ps e _ h1 h2=>?_;exact ⟨i,ps,e,h1,h2⟩
 | dct l=>refine oEAA h fun i e _ h1=>?_;exact ⟨i,e,h1⟩
 | _=>exact h
end
structure GS (g:G) (st:St):Prop where
 ts:TS g.rows st
 d:st[2]?=some (.list [.int g.pos,.obj 1])
 s:st[1]?=some (.list (g.scr.map .int))
 p8:∃ l,st[8]?=some (.list l)∧l.length=g.np
 p9:∃ l,st[9]?=some (.list l)∧l.length=g.np
 p10:∃ l,st[10]?=some (.list l)∧l.length=g.np
theorem TS.keep {rows:List PV} {st st':St} (h:TS rows st) (hk:∀ i o,i<13→st[i]?=some o→st'[i]?=some o):TS rows st' :=
 ⟨hk _ _ (by omega) h.inst,hk _ _ (by omega) h.attrs,hk _ _ (by omega) h.rws,hk _ _ (by omega) h.idx,h.nd,h.tup,h.len⟩
theorem GS.keep {g:G} {st st':St} (h:GS g st) (hk:∀ i o,i<13→st[i]?=some o→st'[i]?=some o):GS g st' :=
 ⟨h.ts.keep fun i o hi=>hk i o (by omega),hk _ _ (by omega) h.d,hk _ _ (by omega) h.s,h.p8.imp fun l h=>⟨hk _ _ (by omega) h.1,h.2⟩,h.p9.imp fun l h=>⟨hk _ _ (by omega) h.1,h.2⟩,h.p10.imp fun l h=>⟨hk _ _ (by omega) h.1,h.2⟩⟩
theorem GS.app {g:G} {st x:St} (h:GS g st):GS g (st++x):=h.keep fun i o _ e=>(Ar.app (O:=[])).old i o (by simp) e
noncomputable def VS.isOwn:VS→Bool
 | .val _=>false
 | _=>true
noncomputable def Yl (L0:Nat) (O:List Nat) (st:St):VS→PV→Prop
 | .val v,p=>Rel O st v p
 | .own l,p=>∃ j ps,p=.obj j∧j∈O∧L0≤j∧st[j]?=some (.list ps)∧AT O st l ps
 | .ownD l,p=>∃ j,p=.obj j∧j∈O∧L0≤j∧st[j]?=some (.dict (encD l))
structure SR (L0:Nat) (O:List Nat) (σv:VL) (σ:Lo) (st:St):Prop where
 len:σv.length=σ.length
 at':∀ (i:Nat) (s:VS),σv[i]?=some (some s)→∃ p:PV,σ[i]?=some (some p)∧Yl L0 O st s p
 apart:∀ (i k:Nat) (s s':VS) (p:PV),i≠k→σv[i]?=some (some s)→σv[k]?=some (some s')→s.isOwn=true→s'.isOwn=true→σ[i]?=some (some p)→σ[k]?=some (some p)→False
structure EI (L0:Nat) (O:List Nat) (σv:VL) (σ:Lo) (g:G) (st:St):Prop where
 sr:SR L0 O σv σ st
 gs:GS g st
 bo:∀ i∈B,i∈O
 lt:∀ o∈O,o<st.length
 l0:L0≤st.length
 seven:13≤L0
theorem Yl.keep {L0:Nat} {O:List Nat} {st st':St} {s:VS} {p:PV} (h:Yl L0 O st s p) (hk:Ar B st st') (hb:∀ i∈B,i∈O) (h7:13≤L0):Yl L0 O st' s p:=by
 have hk':Ar O st st':=hk.mono hb
 have nb:∀ j,L0≤j→j∉B:=fun j hj hm=>Nat.lt_irrefl _ (Nat.lt_of_lt_of_le (Wd j hm) (Nat.le_trans h7 hj))
 cases s with
 | val v=>exact Rel.keep h hk'
 | own l =>
  refine oEEAAAA h fun j ps e hj hl hg hr=>?_
  exact ⟨j,ps,e,hj,hl,hk.old _ _ (nb j hl) hg,hr.keep hk'⟩
 | ownD l =>
  refine oEAAA h fun j e hj hl hg=>?_
  exact ⟨j,e,hj,hl,hk.old _ _ (nb j hl) hg⟩
theorem SR.keep {L0:Nat} {O:List Nat} {σv:VL} {σ:Lo} {st st':St} (h:SR L0 O σv σ st) (hk:Ar B st st') (hb:∀ i∈B,i∈O) (h7:13≤L0):SR L0 O σv σ st' :=
 ⟨h.len,fun i s e=>by
  refine oEA (h.at' i s e) fun p h1 h2=>?_
  exact ⟨p,h1,h2.keep hk hb h7⟩,h.apart⟩
theorem EI.step {L0:Nat} {O:List Nat} {σv:VL} {σ:Lo} {g g':G} {st st':St} (h:EI L0 O σv σ g st) (hk:Ar B st st') (hg:GS g' st'):EI L0 O σv σ g' st' :=
 ⟨h.sr.keep hk h.bo h.seven,hg,h.bo,fun o ho=>Nat.lt_of_lt_of_le (h.lt o ho) hk.len,Nat.le_trans h.l0 hk.len,h.seven⟩
theorem EI.ko {L0:Nat} {O:List Nat} {σv:VL} {σ:Lo} {g:G} {st st':St} (h:EI L0 O σv σ g st) (hk:Ar B st st'):Ar O st st':=hk.mono h.bo
theorem CN {α:Type} {l:List (Option α)} {i k:Nat} {x y:α} (h:(l.set i (some x))[k]?=some (some y)):(i=k∧x=y∧i<l.length)∨(i≠k∧l[k]?=some (some y)):=by
 by_cases e:i=k
 ·subst e
  have hi:=(gI h).1
  rw [List.length_set] at hi
  rw [List.getElem?_set_self hi] at h
  exact .inl ⟨rfl,Option.some.inj (Option.some.inj h),hi⟩
 ·rw [List.getElem?_set_ne e] at h
  exact .inr ⟨e,h⟩
theorem SR.set {L0:Nat} {O:List Nat} {σv:VL} {σ:Lo} {st:St} (h:SR L0 O σv σ st) {v:VV} {p:PV} (hr:Rel O st v p) (i:Nat):SR L0 O (σv.set i (some (.val v))) (σ.set i (some p)) st:=by
 refine ⟨by rw [List.length_set,List.length_set,h.len],fun k s e=>?_,fun a b s s' q hab ea eb oa ob ha hb=>?_⟩
 ·rcases CN e with ⟨rfl,rfl,hi⟩ | ⟨hk,e⟩
  ·exact ⟨p,List.getElem?_set_self (h.len▸hi),hr⟩
  ·rw [List.getElem?_set_ne hk]
   exact h.at' k s e
 ·rcases CN ea with ⟨_,rfl,_⟩ | ⟨na,ea⟩
  ·exact nB oa
  ·rcases CN eb with ⟨_,rfl,_⟩ | ⟨nb,eb⟩
   ·exact nB ob
   ·rw [List.getElem?_set_ne na] at ha
    rw [List.getElem?_set_ne nb] at hb
    exact h.apart a b s s' q hab ea eb oa ob ha hb
theorem EI.withSR {L0:Nat} {O:List Nat} {σv σv':VL} {σ σ':Lo} {g:G} {st:St} (h:EI L0 O σv σ g st) (sr:SR L0 O σv' σ' st):EI L0 O σv' σ' g st:=⟨sr,h.gs,h.bo,h.lt,h.l0,h.seven⟩
noncomputable def CS (C:Ac) (V:VC):Prop:=∀ f vs g r,V f vs g=some r→∀ (O:List Nat) (st:St) (ps:List PV) (Q:PV→St→Prop),(∀ i∈B,i∈O)→(∀ o∈O,o<st.length)→13≤st.length→AT O st vs ps→GS g st →
 (∀ p st',Rel O st' r.1 p→GS r.2 st'→Ar B st st'→Q p st')→C f ps st Q
end
end Mine.V
end
section
namespace Mine.V
open PySem
open scoped Classical
noncomputable section
section
variable {O:List Nat} {st:St}
theorem Z4 {α:Type} {l:List α} {i:Int} {v:α} (e:atI l i=some v):l.length≤100000∧(0≤i∧l[i.toNat]?=some v∨i<0∧0≤i+l.length∧l[(i+l.length).toNat]?=some v):=by
 refine oA (EO e) fun h1 ea=>?_
 refine ⟨h1,?_⟩
 by_cases h2:0≤i
 ·rw [if_pos h2] at ea;exact .inl ⟨h2,ea⟩
 ·rw [if_neg h2] at ea
  exact .inr ⟨Int.not_le.mp h2,EO ea⟩
theorem WP {l:List PV} {i:Int} {v:PV} (e:atI l i=some v):AtW l i v:=by
 obtain ⟨h,⟨h1,e⟩ | ⟨h1,h2,e⟩⟩:=Z4 e
 ·exact .pos h h1 e
 ·exact .neg h h1 h2 e
theorem AT.atI {l:List VV} {ps:List PV} (h:AT O st l ps) {i:Int} {v:VV} (e:atI l i=some v):∃ p,AtW ps i p∧Rel O st v p:=by
 have hl:=h.length
 obtain ⟨h0,⟨h1,e⟩ | ⟨h1,h2,e⟩⟩:=Z4 e
 ·refine oEA (h.get e) fun p hp hr=>?_
  exact ⟨p,.pos (hl▸h0) h1 hp,hr⟩
 ·refine oEA (h.get e) fun p hp hr=>?_
  rw [hl] at h0 h2 hp
  exact ⟨p,.neg h0 h1 h2 hp,hr⟩
theorem IW {g:G} {o k v:VV} {p q:PV} (e:GG g o k=some v) (ho:Sh O st o p) (hk:Rel O st k q) (gs:GS g st):∃ r,N0 st p q r∧Rel O st v r:=by
 obtain ⟨i,rfl,ea⟩:=Ez e
 cases hk
 cases o with
 | imm x =>
  obtain ⟨l,rfl,e1⟩:=Xv ea
  cases ho
  obtain ⟨r,e2,rfl⟩:=BV e1
  exact ⟨r,.tup (WP e2),(rfl:r=r)⟩
 | tup l =>
  refine oEA ho fun ps z0 hr=>?_;subst z0
  refine oEA (hr.atI ea) fun r e1 e2=>?_
  exact ⟨r,.tup e1,e2⟩
 | lst l =>
  refine oEEAA ho fun j ps z0 hg hr=>?_;subst z0
  refine oEA (hr.atI ea) fun r e1 e2=>?_
  exact ⟨r,.list hg e1,e2⟩
 | rws =>
  cases ho
  refine oA (EO ea) fun hi e1=>?_
  obtain ⟨r,e2,rfl⟩:=BV e1
  exact ⟨r,.list gs.ts.rws (.pos (Nat.le_trans gs.ts.len (by decide)) hi e2),(rfl:r=r)⟩
 | _=>exact nO ea
theorem Bj (ns:List Int) (n:Nat):(ns.map PV.int).all (Ad n)=true:=by
 rw [List.all_map,List.all_eq_true]
 intro i _
 cases n<;>rfl
theorem Ei {a b:List Int}:a.map PV.int=b.map PV.int↔a=b:=List.map_inj_right fun _ _=>PV.int.inj
theorem mem_map_int {a:List Int} {x:Int}:PV.int x∈a.map PV.int↔x∈a:=by
 rw [List.mem_map]
 exact ⟨fun ⟨y,h,e⟩=>PV.int.inj e▸h,fun h=>⟨x,h,rfl⟩⟩
theorem FK (l:List (Int×Int)):(encD l).map (·.1)=(l.map (·.1)).map PV.int:=by
 unfold encD;rw [List.map_map,List.map_map];rfl
theorem JW (l:List (Int×Int)):∀ p∈encD l,p.1.isInt=true:=by
 intro p hp
 unfold encD at hp
 refine oEA (mQ hp) fun a _ z0=>?_;subst z0
 rfl
theorem B9 (l:List (Int×Int)) (k:Int):keyed (.int k) (encD l):=.inl ⟨rfl,JW l⟩
theorem Eu (l:List (Int×Int)):(encD l).length=l.length:=List.length_map _
theorem ZQ {l:List PV} {m:List PV} {f:List Int→List Int→Bool} {r:Bool} (e:((FY l).bind fun a=>(FY m).map fun b=>f a b)=some r):∃ a b,l=a.map .int∧m=b.map .int∧f a b=r:=by
 obtain ⟨a,e1,e2⟩:=AP e
 obtain ⟨b,e3,e4⟩:=BV e2
 exact ⟨a,b,Gj e1,Gj e3,e4⟩
theorem Ke {a b:VV} {p q:PV} {r:Bool} (e:YK a b=some r) (ha:Sh O st a p) (hb:Sh O st b q):XJ st p q r:=by
 cases a with
 | imm x =>
  obtain ⟨y,rfl,ea⟩:=J3 e
  cases ha;cases hb
  cases p with
  | int i=>obtain ⟨j,rfl,eb⟩:=ZE ea;obtain rfl:=sI eb;exact .int i j
  | bool i=>obtain ⟨j,rfl,eb⟩:=pB_ ea;obtain rfl:=sI eb;exact .bool i j
  | tup i =>
   obtain ⟨j,rfl,eb⟩:=Xv ea
   refine oEEAA (ZQ eb) fun a b z0 z1 z2=>?_;subst z0;subst z1;subst z2
   rw [←decide_eq_decide.mpr Ei]
   exact .tup (Bj _ _) (Bj _ _)
  | _=>exact nO ea
 | lst x =>
  obtain ⟨y,rfl,ea⟩:=Ro e
  obtain ⟨a,e1,e2⟩:=AP ea
  obtain ⟨b,e3,rfl⟩:=BV e2
  refine oEEAA ha fun i ps z0 h1 h2=>?_;subst z0
  refine oEEAA hb fun j qs z0 h3 h4=>?_;subst z0
  rw [h2.of_ints e1] at h1
  rw [h4.of_ints e3] at h3
  rw [←decide_eq_decide.mpr Ei]
  exact .list h1 h3 (Bj _ _) (Bj _ _)
 | _=>exact nO e
theorem Kc {a b:VV} {p q:PV} {r:Bool} (e:inV a b=some r) (ha:Rel O st a p) (hb:Sh O st b q):WZ st p q r:=by
 obtain ⟨i,rfl,ea⟩:=Ez e
 cases ha
 cases b with
 | imm x =>
  obtain ⟨l,rfl,eb⟩:=Xv ea
  cases hb
  obtain ⟨ns,e1,rfl⟩:=BV eb
  rw [Gj e1,←decide_eq_decide.mpr mem_map_int]
  exact .tup rfl (Bj _ _)
 | lst l =>
  refine oEEAA hb fun j ps z0 h1 h2=>?_;subst z0
  obtain ⟨ns,e1,rfl⟩:=BV ea
  rw [h2.of_ints e1] at h1
  rw [←decide_eq_decide.mpr mem_map_int]
  exact .list h1 rfl (Bj _ _)
 | dct l =>
  refine oEA hb fun j z0 h1=>?_;subst z0
  obtain rfl:=sI ea
  have:=WZ.dict h1 (B9 l i)
  rw [FK] at this
  rw [←decide_eq_decide.mpr mem_map_int];exact this
 | _=>exact nO ea
theorem Gi {a:VV} {p:PV} {r:Bool} (e:isNone a=some r) (ha:Rel O st a p):C5 st .Is p .none r∧C5 st .IsNot p .none (!r):=by
 cases a with
 | imm x =>
  cases ha
  cases p with
  | none=>obtain rfl:=sI e;exact ⟨.isN,.noN⟩
  | int i=>obtain rfl:=sI e;exact ⟨.isI i,.noI i⟩
  | _=>exact nO e
 | lst l=>refine oEEA ha fun i ps z0 _=>?_;subst z0;obtain rfl:=sI e;exact ⟨.isO i,.noO i⟩
 | _=>exact nO e
theorem V6 {f:Int→Int→Bool} {a b:VV} {p q:PV} {r:Bool} (e:ltV f a b=some r) (ha:Rel O st a p) (hb:Rel O st b q):∃ x y,p=.int x∧q=.int y∧r=f x y:=by
 obtain ⟨x,rfl,ea⟩:=Ez e
 obtain ⟨y,rfl,eb⟩:=Ez ea
 exact ⟨x,y,ha,hb,(Option.some.inj eb).symm⟩
theorem Z6 {α:Type} {v:VV} {k:Option α} {r:α} (e:asN v k=some r):v=.imm .none∧k=some r:=by
 obtain ⟨p,rfl,ea⟩:=J3 e
 cases p with
 | none=>exact ⟨rfl,ea⟩
 | _=>exact nO ea
theorem PN {op:CmpOp} {a b:VV} {p q:PV} {r:Bool} (e:EP op a b=some r) (ha:Rel O st a p) (hb:Rel O st b q):C5 st op p q r:=by
 cases op with
 | Eq=>exact .eq (Ke e ha.sh hb.sh)
 | NotEq=>obtain ⟨x,e1,rfl⟩:=BV e;exact .ne (Ke e1 ha.sh hb.sh)
 | Lt=>refine oEEAA (V6 e ha hb) fun x y z0 z1 z2=>?_;subst z0;subst z1;subst z2;exact .lt x y
 | LtE=>refine oEEAA (V6 e ha hb) fun x y z0 z1 z2=>?_;subst z0;subst z1;subst z2;exact .le x y
 | Gt=>refine oEEAA (V6 e ha hb) fun x y z0 z1 z2=>?_;subst z0;subst z1;subst z2;exact .gt x y
 | GtE=>refine oEEAA (V6 e ha hb) fun x y z0 z1 z2=>?_;subst z0;subst z1;subst z2;exact .ge x y
 | In=>exact .isin (Kc e ha hb.sh)
 | NotIn=>obtain ⟨x,e1,rfl⟩:=BV e;exact .nin (Kc e1 ha hb.sh)
 | Is=>refine oA (Z6 e) fun z0 ea=>?_;subst z0;cases hb;exact (Gi ea ha).1
 | IsNot =>
  refine oA (Z6 e) fun z0 ea=>?_;subst z0
  obtain ⟨x,e1,rfl⟩:=BV ea
  cases hb;exact (Gi e1 ha).2
theorem Hp {α β:Type} {a:List α} {b:List β} (h:a.length=b.length):a.isEmpty=b.isEmpty:=by cases a<;>cases b<;>first | rfl | exact nomatch h
theorem De {a:VV} {p:PV} {r:Bool} (e:Ch a=some r) (ha:Sh O st a p):BP st p r:=by
 cases a with
 | imm x =>
  cases ha
  cases p with
  | none=>obtain rfl:=sI e;exact .none
  | bool b=>obtain rfl:=sI e;exact .bool _
  | int i=>obtain rfl:=sI e;exact .int i
  | tup l=>refine oA (EO e) fun h ea=>?_;obtain rfl:=sI ea;exact .tup h
  | _=>exact nO e
 | tup l =>
  refine oEA ha fun ps z0 hr=>?_;subst z0
  refine oA (EO e) fun h ea=>?_
  obtain rfl:=sI ea
  rw [Hp hr.length];exact .tup (hr.length▸h)
 | lst l =>
  refine oEEAA ha fun i ps z0 h1 hr=>?_;subst z0
  refine oA (EO e) fun h ea=>?_
  obtain rfl:=sI ea
  rw [Hp hr.length];exact .list h1 (hr.length▸h)
 | _=>exact nO e
theorem Gh {a:VV} {p:PV} {its:List VV} (e:Bs a=some its) (ha:Rel O st a p):∃ rs,C2 st p rs∧AT O st its rs∧∀ st',Ar O st st'→same p rs st':=by
 cases a with
 | imm x =>
  cases ha
  cases p with
  | tup l=>obtain rfl:=sI e;exact ⟨_,.tup l,.imm _,fun _ _=>trivial⟩
  | rng lo hi=>refine oA (EO e) fun h ea=>?_;obtain rfl:=sI ea;exact ⟨_,.rng h.1.1 h.1.2 h.2.1 h.2.2,.imm _,fun _ _=>trivial⟩
  | _=>exact nO e
 | tup l =>
  refine oEA ha fun ps z0 h=>?_;subst z0
  obtain rfl:=sI e
  exact ⟨_,.tup ps,h,fun _ _=>trivial⟩
 | lst l =>
  refine oEEAAA ha fun i ps z0 hi h1 h=>?_;subst z0
  obtain rfl:=sI e
  exact ⟨ps,.list h1,h,fun st' hk=>hk.old _ _ hi h1⟩
 | _=>exact nO e
theorem No {L0:Nat} (l:List Nat):∀ (vs:List VV) (ps:List PV) (σv:VL) (σ:Lo),SR L0 O σv σ st→AT O st vs ps→SR L0 O (UE σv l vs) ((l.zip ps).foldl (fun σ p=>σ.set p.1 (some p.2)) σ) st:=by
 induction l with
 | nil=>exact fun _ _ _ _ h _=>h
 | cons i l ih =>
  intro vs ps σv σ h hr
  cases vs with
  | nil=>rw [hr.unnil];exact h
  | cons v vs =>
   refine oEEAA (hr.uncons) fun p r z0 a b=>?_;subst z0
   exact ih vs r _ _ (h.set a i) b
theorem Hv {L0:Nat} {σv σv':VL} {σ:Lo} {l:List Nat} {vs:List VV} {ps:List PV} {n:Nat} (h:SR L0 O σv σ st) (hr:AT O st vs ps) (hn:n=ps.length) (e:bindM σv l vs n=some σv'):∃ σ',Ff σ (.many l) (.tup ps) σ'∧SR L0 O σv' σ' st:=by
 refine oA (EO e) fun h1 ea=>?_
 obtain rfl:=sI ea
 exact ⟨_,.many (h1.trans hn),No _ _ _ _ _ h hr⟩
theorem Ew {L0:Nat} {σv σv':VL} {σ:Lo} {t:PT} {x:VV} {p:PV} (h:SR L0 O σv σ st) (hr:Rel O st x p) (e:B3 t x σv=some σv'):∃ σ',Ff σ t p σ'∧SR L0 O σv' σ' st:=by
 cases t with
 | one i=>obtain rfl:=sI e;exact ⟨_,.one i p,h.set hr _⟩
 | many l =>
  cases x with
  | imm y =>
   obtain ⟨ps,rfl,ea⟩:=Xv e
   cases hr
   exact Hv h (.imm _) rfl ea
  | tup vs=>obtain ⟨ps,rfl,hr⟩:=hr;exact Hv h hr hr.length e
  | _=>exact nO e
end
section
variable {L0:Nat} {O:List Nat} {σv:VL} {σ:Lo} {g:G} {st:St}
theorem EI.newL (h:EI L0 O σv σ g st) {l:List VV} {ps:List PV} (hr:AT O st l ps):Rel O (st++[.list ps]) (.lst l) (.obj st.length)∧EI L0 O σv σ g (st++[.list ps])∧Ar B st (st++[.list ps]) :=
 ⟨LF (fun hm=>Nat.lt_irrefl _ (h.lt _ hm)) List.getElem?_concat_length (hr.keep .app),h.step .app h.gs.app,.app⟩
noncomputable abbrev After (L0:Nat) (O:List Nat) (σv:VL) (σ:Lo) (g:G) (st:St) (Q:PV→St→Prop) (v:VV):Prop:=∀ r st',Rel O st' v r→EI L0 O σv σ g st'→Ar B st st'→Q r st'
theorem After.imm {Q:PV→St→Prop} {p:PV} (hq:After L0 O σv σ g st Q (.imm p)) (h:EI L0 O σv σ g st):Q p st:=hq p st (rfl:p=p) h .refl
theorem After.lst {Q:PV→St→Prop} {l:List VV} {ps:List PV} (hq:After L0 O σv σ g st Q (.lst l)) (h:EI L0 O σv σ g st) (hr:AT O st l ps):Q (.obj st.length) (st++[.list ps]):=hq _ _ (h.newL hr).1 (h.newL hr).2.1 (h.newL hr).2.2
theorem PY (h:EI L0 O σv σ g st) {op:Operator} {a b v:VV} {p q:PV} {Q:PV→St→Prop} (e:Hz op a b=some v) (ha:Rel O st a p) (hb:Rel O st b q) (hq:After L0 O σv σ g st Q v):Pf st Q op p q:=by
 cases a with
 | imm x =>
  obtain ⟨y,rfl,ea⟩:=J3 e
  cases ha;cases hb
  cases p with
  | int i =>
   obtain ⟨j,rfl,eb⟩:=ZE ea
   obtain ⟨z,ez,rfl⟩:=BV eb
   exact .int ez (hq.imm h)
  | str i =>
   cases q with
   | str j =>
    refine oA (EO ea) fun h1 eb=>?_
    obtain rfl:=sI eb
    obtain ⟨rfl,h2⟩:=h1
    exact .str h2 (hq.imm h)
   | _=>exact nO ea
  | _=>exact nO ea
 | lst l =>
  obtain ⟨y,rfl,ea⟩:=Ro e
  refine oEEAAA ha fun i ps z0 _ h1 h2=>?_;subst z0
  refine oEEAAA hb fun j qs z0 _ h3 h4=>?_;subst z0
  refine oA (EO ea) fun h5 eb=>?_
  obtain rfl:=sI eb
  obtain ⟨rfl,h5⟩:=h5
  exact .list h1 h3 (by rw [←h2.length,←h4.length];exact h5) (hq.lst h (h2.append h4))
 | _=>exact nO e
theorem insI_perm (x:Int):∀ l,(insI x l).Perm (x::l)
 | []=>.refl _
 | y::l=>by
  unfold insI
  split
  ·exact .refl _
  ·exact ((insI_perm x l).cons y).trans (.swap x y l)
theorem Hr (x:Int):∀ l,l.Pairwise (·≤·)→(insI x l).Pairwise (·≤·)
 | [],_=>by simp [insI]
 | y::l,h=>by
  rw [List.pairwise_cons] at h
  unfold insI
  split
  ·rename_i hxy
   refine List.pairwise_cons.mpr ⟨fun a ha=>?_,List.pairwise_cons.mpr h⟩
   rcases mC ha with rfl | ha
   ·exact hxy
   ·exact Int.le_trans hxy (h.1 a ha)
  ·rename_i hxy
   refine List.pairwise_cons.mpr ⟨fun a ha=>?_,Hr x l h.2⟩
   rcases mC ((insI_perm x l).mem_iff.mp ha) with rfl | ha
   ·omega
   ·exact h.1 a ha
theorem sortI_perm:∀ l,(sortI l).Perm l
 | []=>.refl _
 | x::l=>(insI_perm x (sortI l)).trans ((sortI_perm l).cons x)
theorem Di:∀ l,(sortI l).Pairwise (·≤·)
 | []=>.nil
 | x::l=>Hr x _ (Di l)
theorem Si {a b:List Int} (h:a.Perm b) (hs:a.Pairwise (·≤·)):a=sortI b :=
 List.Perm.eq_of_pairwise (fun a b _ _ h1 h2=>Int.le_antisymm h1 h2) hs (Di b) (h.trans (sortI_perm b).symm)
theorem FG:∀ l:List Int,l≠[]→FM l∈l∧∀ a∈l,a≤FM l
 | [],h=>absurd rfl h
 | [a],_=>by simp [FM]
 | a::b::l,_=>by
  have ih:=FG (b::l) (by simp)
  simp only [FM]
  split
  ·rename_i h1
   refine ⟨.tail _ ih.1,fun x hx=>?_⟩
   rcases mC hx with rfl | hx
   ·have h1:x<FM (b::l):=h1;exact Int.le_of_lt h1
   ·exact ih.2 x hx
  ·rename_i h1
   refine ⟨.head _,fun x hx=>?_⟩
   rcases mC hx with rfl | hx
   ·exact Int.le_refl _
   ·have:=ih.2 x hx;have h1:¬a<FM (b::l):=h1;omega
theorem HA:∀ l:List Int,l≠[]→M4 l∈l∧∀ a∈l,M4 l≤a
 | [],h=>absurd rfl h
 | [a],_=>by simp [M4]
 | a::b::l,_=>by
  have ih:=HA (b::l) (by simp)
  simp only [M4]
  split
  ·rename_i h1
   refine ⟨.tail _ ih.1,fun x hx=>?_⟩
   rcases mC hx with rfl | hx
   ·have h1:M4 (b::l)<x:=h1;exact Int.le_of_lt h1
   ·exact ih.2 x hx
  ·rename_i h1
   refine ⟨.head _,fun x hx=>?_⟩
   rcases mC hx with rfl | hx
   ·exact Int.le_refl _
   ·have:=ih.2 x hx;have h1:¬M4 (b::l)<a:=h1;omega
inductive XG (O:List Nat) (st:St):List VV→List PV→Prop
 | one {v p}:Sh O st v p→XG O st [v] [p]
 | rel {vs ps}:AT O st vs ps→XG O st vs ps
theorem XG.get1 {v:VV} {ps:List PV} (h:XG O st [v] ps):∃ p,ps=[p]∧Sh O st v p:=by
 cases h with
 | one h=>exact ⟨_,rfl,h⟩
 | rel h =>
  refine oEEAA (h.uncons) fun p r z0 a b=>?_;subst z0
  exact ⟨p,by rw [b.unnil],a.sh⟩
theorem XG.get2 {v w:VV} {ps:List PV} (h:XG O st [v,w] ps):∃ p q,ps=[p,q]∧Rel O st v p∧Rel O st w q:=by
 cases h with
 | rel h =>
  refine oEEAA (h.uncons) fun p r z0 a b=>?_;subst z0
  refine oEEAA (b.uncons) fun q r z0 c d=>?_;subst z0
  exact ⟨p,q,by rw [d.unnil],a,c⟩
theorem QH {n m:Nat} {v:VV} (e:To n=some v) (hm:n=m):m≤100000∧v=.imm (.int m):=by
 refine oA (EO e) fun h ea=>?_
 obtain rfl:=sI ea
 subst hm
 exact ⟨h,rfl⟩
theorem Zf {f:List Int→Int} {a v:VV} {p:PV} (e:YJ f a=some v) (ha:Sh O st a p):∃ i ns,p=.obj i∧st[i]?=some (.list (ns.map .int))∧ns≠[]∧v=.imm (.int (f ns)):=by
 obtain ⟨l,rfl,ea⟩:=Ro e
 obtain ⟨ns,en,eb⟩:=AP ea
 refine oA (EO eb) fun h ec=>?_
 refine oEEAA ha fun i ps z0 h2 hr=>?_;subst z0
 rw [hr.of_ints en] at h2
 exact ⟨i,ns,rfl,h2,h.1,(Option.some.inj ec).symm⟩
theorem Ko (h:EI L0 O σv σ g st) {b:Bi} {vs:List VV} {ps:List PV} {v:VV} {Q:PV→St→Prop} (e:L7 b vs=some v) (hs:XG O st vs ps) (hq:After L0 O σv σ g st Q v):N3 st Q b ps:=by
 cases b with
 | len =>
  refine oEA (DX e) fun a z0 ea=>?_;subst z0
  refine oEA (hs.get1) fun p z0 ha=>?_;subst z0
  cases a with
  | imm x =>
   obtain ⟨l,rfl,eb⟩:=Xv ea
   cases ha
   refine oA (QH eb rfl) fun h1 z0=>?_;subst z0
   exact .lenT h1 (hq.imm h)
  | tup l =>
   refine oEA ha fun ps z0 hr=>?_;subst z0
   refine oA (QH ea hr.length) fun h1 z0=>?_;subst z0
   exact .lenT h1 (hq.imm h)
  | lst l =>
   refine oEEAA ha fun i ps z0 h2 hr=>?_;subst z0
   refine oA (QH ea hr.length) fun h1 z0=>?_;subst z0
   exact .lenL h2 h1 (hq.imm h)
  | dct l =>
   refine oEA ha fun i z0 h2=>?_;subst z0
   refine oA (QH ea (Eu l).symm) fun h1 z0=>?_;subst z0
   exact .lenD h2 (JW _) h1 (hq.imm h)
  | _=>exact nO ea
 | range =>
  cases vs with
  | nil=>exact nO e
  | cons a r =>
   obtain ⟨m,rfl,ea⟩:=Ez e
   cases r with
   | nil =>
    refine oEA (hs.get1) fun p z0 ha=>?_;subst z0
    cases ha;obtain rfl:=sI ea
    exact .rng1 (hq.imm h)
   | cons b r =>
    refine oEA (DX ea) fun w e0 eb=>?_
    refine oA (List.cons.inj e0) fun z0 z1=>?_;subst z0;subst z1
    obtain ⟨n,rfl,ec⟩:=Ez eb
    refine oEEAA (hs.get2) fun p q z0 ha hb=>?_;subst z0
    cases ha;cases hb;obtain rfl:=sI ec
    exact .rng2 (hq.imm h)
 | max =>
  cases vs with
  | nil=>exact nO e
  | cons a r =>
   cases r with
   | nil =>
    refine oEA (hs.get1) fun p z0 ha=>?_;subst z0
    refine oEEAAA (Zf e ha) fun i ns z0 h2 hne z1=>?_;subst z0;subst z1
    refine .maxL h2 hne fun m hm hb=>?_
    rw [Int.le_antisymm ((FG ns hne).2 m hm) (hb _ (FG ns hne).1)]
    exact hq.imm h
   | cons b r =>
    obtain ⟨m,rfl,ea⟩:=Ez e
    refine oEA (DX ea) fun w e0 eb=>?_
    refine oA (List.cons.inj e0) fun z0 z1=>?_;subst z0;subst z1
    obtain ⟨n,rfl,ec⟩:=Ez eb
    refine oEEAA (hs.get2) fun p q z0 ha hb=>?_;subst z0
    cases ha;cases hb;obtain rfl:=sI ec
    exact .max2 (hq.imm h)
 | min =>
  refine oEA (DX e) fun a z0 ea=>?_;subst z0
  refine oEA (hs.get1) fun p z0 ha=>?_;subst z0
  refine oEEAAA (Zf ea ha) fun i ns z0 h2 hne z1=>?_;subst z0;subst z1
  refine .minL h2 hne fun m hm hb=>?_
  rw [Int.le_antisymm (hb _ (HA ns hne).1) ((HA ns hne).2 m hm)]
  exact hq.imm h
 | sorted =>
  refine oEA (DX e) fun a z0 ea=>?_;subst z0
  obtain ⟨l,rfl,eb⟩:=ABK ea
  refine oA (EO eb) fun h1 ec=>?_
  refine oEAEA (hs.get1) fun p z0 i z1 h2=>?_;subst z0;subst z1
  obtain rfl:=sI ec
  refine .sorted (ns:=l.map (·.1)) h2 (FK _) (by rw [List.length_map];exact h1) fun ns' hp hs=>?_
  rw [Si hp hs]
  have hr:=AT.imm (O:=O) (st:=st) ((sortI (l.map (·.1))).map .int)
  rw [List.map_map] at hr
  exact hq.lst h hr
 | all =>
  refine oEA (DX e) fun a z0 ea=>?_;subst z0
  obtain ⟨l,rfl,eb⟩:=Ro ea
  obtain ⟨bs,en,ec⟩:=AP eb
  refine oA (EO ec) fun h1 ed=>?_
  refine oEAEEAA (hs.get1) fun p z0 i ps z1 h2 hr=>?_;subst z0;subst z1
  rw [hr.of_bools en] at h2
  obtain rfl:=sI ed
  exact .all h2 (hq.imm h)
 | tuple =>
  refine oEA (DX e) fun a z0 ea=>?_;subst z0
  refine oEA (hs.get1) fun p z0 ha=>?_;subst z0
  cases a with
  | lst l =>
   refine oEEAA ha fun i ps z0 h2 hr=>?_;subst z0
   refine oA (EO ea) fun h1 eb=>?_
   obtain rfl:=sI eb
   exact .tupL h2 (hr.length▸h1) (hq _ _ (.mkTup hr) h .refl)
  | imm x =>
   obtain ⟨l,rfl,eb⟩:=Xv ea
   cases ha;obtain rfl:=sI eb
   exact .tupT (hq.imm h)
  | _=>exact nO ea
 | str =>
  refine oEA (DX e) fun a z0 ea=>?_;subst z0
  obtain ⟨n,rfl,eb⟩:=Ez ea
  refine oA (EO eb) fun h1 ec=>?_
  refine oEA (hs.get1) fun p z0 ha=>?_;subst z0
  cases ha;obtain rfl:=sI ec
  exact .str h1.1 h1.2 (hq.imm h)
end
end
end Mine.V
end
section
namespace Mine.V
open PySem
open scoped Classical
noncomputable section
section
variable {α:Type} {r:α}
theorem Ml {e:PE} {k:Nat→Option α} (h:TI e k=some r):∃ a,e=.loc a∧k a=some r :=
 (dO h).elim fun q h=>PE.loc.elim (motive_1:=fun e=>∀ q:e.ctorIdx=0,PE.loc.elim (motive_1:=fun _=>Option α) e q k=some r→∃ a,e=.loc a∧k a=some r) e q (fun a _ h=>⟨a,rfl,h⟩) q h
theorem AAe {e:PE} {k:Nat→Option α} (h:qGl e k=some r):∃ a,e=.gl a∧k a=some r :=
 (dO h).elim fun q h=>PE.gl.elim (motive_1:=fun e=>∀ q:e.ctorIdx=5,PE.gl.elim (motive_1:=fun _=>Option α) e q k=some r→∃ a,e=.gl a∧k a=some r) e q (fun a _ h=>⟨a,rfl,h⟩) q h
theorem Xl {e:PE} {k:List PE→Option α} (h:Wp e k=some r):∃ a,e=.list a∧k a=some r :=
 (dO h).elim fun q h=>PE.list.elim (motive_1:=fun e=>∀ q:e.ctorIdx=7,PE.list.elim (motive_1:=fun _=>Option α) e q k=some r→∃ a,e=.list a∧k a=some r) e q (fun a _ h=>⟨a,rfl,h⟩) q h
theorem Xm {e:PE} {k:List (Nat×Int)→Option α} (h:Wq e k=some r):∃ a,e=.dict a∧k a=some r :=
 (dO h).elim fun q h=>PE.dict.elim (motive_1:=fun e=>∀ q:e.ctorIdx=8,PE.dict.elim (motive_1:=fun _=>Option α) e q k=some r→∃ a,e=.dict a∧k a=some r) e q (fun a _ h=>⟨a,rfl,h⟩) q h
theorem Xo {e:PE} {k:PE→List PE→Option α} (h:Wr e k=some r):∃ a b,e=.call a b∧k a b=some r :=
 (dO h).elim fun q h=>PE.call.elim (motive_1:=fun e=>∀ q:e.ctorIdx=14,PE.call.elim (motive_1:=fun _=>Option α) e q k=some r→∃ a b,e=.call a b∧k a b=some r) e q (fun a b _ h=>⟨a,b,rfl,h⟩) q h
theorem Xk {e:PE} {k:PE→Nat→List PE→Option α} (h:Wo e k=some r):∃ a b c,e=.meth a b c∧k a b c=some r :=
 (dO h).elim fun q h=>PE.meth.elim (motive_1:=fun e=>∀ q:e.ctorIdx=15,PE.meth.elim (motive_1:=fun _=>Option α) e q k=some r→∃ a b c,e=.meth a b c∧k a b c=some r) e q (fun a b c _ h=>⟨a,b,c,rfl,h⟩) q h
end
theorem Bp {σ:VL} {i:Nat} {s:VS} (h:Ck σ i=some s):σ[i]?=some (some s):=by
 unfold Ck at h
 cases e:σ[i]? with
 | none=>rw [e] at h;exact nO h
 | some x=>rw [e] at h;exact congrArg some h
theorem FA {L0:Nat} {O:List Nat} {σv:VL} {σ:Lo} {st:St} {i:Nat} {v:VV} (h:SR L0 O σv σ st) (e:(Ck σv i).bind Mq=some v):∃ j s,σv[i]?=some (some s)∧s.isOwn=true∧σ[i]?=some (some (.obj j))∧L0≤j∧Sh O st v (.obj j)∧∀ O',(∀ o∈O',o∈O)→j∉O'→Rel O' st v (.obj j):=by
 obtain ⟨s,e1,e2⟩:=AP e
 refine oEA (h.at' _ _ (Bp e1)) fun p h1 h2=>?_
 cases s with
 | val v=>exact nO e2
 | own l =>
  refine oEEAAAA h2 fun j ps z0 _ hl h3 h4=>?_;subst z0
  obtain rfl:=sI e2
  exact ⟨j,_,Bp e1,rfl,h1,hl,⟨j,ps,rfl,h3,h4⟩,fun O' hs hn=>LF hn h3 (h4.anti hs)⟩
 | ownD l =>
  refine oEAAA h2 fun j z0 _ hl h3=>?_;subst z0
  obtain rfl:=sI e2
  exact ⟨j,_,Bp e1,rfl,h1,hl,⟨j,rfl,h3⟩,fun O' hs hn=>P3 hn h3⟩
theorem RQ (l:List (Int×Int)) (k:Int):look (encD l) (.int k)=(l.find? fun p=>p.1==k).map fun p=>PV.int p.2:=by
 unfold look encD
 induction l with
 | nil=>rfl
 | cons a l ih =>
  rw [List.map_cons,List.find?_cons,List.find?_cons]
  by_cases h:a.1=k
  ·rw [decide_eq_true (congrArg PV.int h),beq_of_eq h];rfl
  ·rw [decide_eq_false fun e=>h (PV.int.inj e),beq_eq_false_iff_ne.mpr h];exact ih
theorem JK {O:List Nat} {st:St} (l:List (Int×Int)) (k:Int) {d:VV} {q:PV} (h:Rel O st d q):Rel O st (NL l k d) (((l.find? fun p=>p.1==k).map fun p=>PV.int p.2).getD q):=by
 unfold NL
 cases l.find? fun p=>p.1==k with
 | none=>exact h
 | some a=>exact (rfl:PV.int a.2=.int a.2)
theorem AT.two {O:List Nat} {st:St} {v w:VV} {ps:List PV} (h:AT O st [v,w] ps):∃ p q,ps=[p,q]∧Rel O st v p∧Rel O st w q:=XG.get2 (.rel h)
theorem W5 {l:List (Int×Int)} {m:Nat} {vs:List VV} {g:G} {r:VV×G} (e:YF l m vs g=some r):m=1∧∃ k d,vs=[.imm (.int k),d]∧r=(NL l k d,g):=by
 refine oA (EO e) fun hm e1=>?_
 refine oEEA (Pt e1) fun k d z0 e2=>?_;subst z0
 obtain ⟨i,rfl,e3⟩:=Ez e2
 exact ⟨hm,i,d,rfl,(Option.some.inj e3).symm⟩
section
variable {C:Ac} {V:VC} (HC:CS C V)
include HC
theorem Of {L0:Nat} {O:List Nat} {σv:VL} {σ:Lo} {g0:G} {b:VV} {m:Nat} {vs:List VV} {p:PV} {r:VV×G} {as:PM (List PV)} {g1:G} {st1:St} {Q:PV→St→Prop} (h:EI L0 O σv σ g1 st1) (hp:Rel O st1 b p)
  (has:∀ (Q':List PV→St→Prop),(∀ ps st,AT O st vs ps→EI L0 O σv σ g0 st→Ar B st1 st→Q' ps st)→as st1 Q') (e:Th V b m vs g0=some r) (hq:∀ p st',Rel O st' r.1 p→EI L0 O σv σ r.2 st'→Ar B st1 st'→Q p st') :
  MethW tx.toTx C m as st1 Q p:=by
 have go:∀ {i:Nat} {p:PV} {v:VV} {ps:List PV} {st:St},V (.fn i) (v::vs) g0=some r→Rel O st v p→AT O st vs ps→EI L0 O σv σ g0 st→Ar B st1 st→C (.fn i) (p::ps) st Q:=fun e hp hr hi hk =>
  HC _ _ _ _ e O _ _ Q hi.bo hi.lt (Nat.le_trans hi.seven hi.l0) (.cons hp hr) hi.gs fun p st' h1 h2 h3=>hq p st' h1 (hi.step h3 h2) (hk.trans' h3)
 cases b with
 | tab =>
  refine oA (EO e) fun z0 e=>?_;subst z0
  cases hp
  exact .inst h.gs.ts.inst rfl h.gs.ts.attrs rfl (has _ fun ps st hr hi hk=>go e (rfl:PV.obj 4=_) hr hi hk)
 | host =>
  refine oA (EO e) fun z0 e=>?_;subst z0
  refine oEEAAAA hp fun a d z0 ha hd h1 h2=>?_;subst z0
  exact .inst h1 rfl h2 rfl (has _ fun ps st hr hi hk=>go e (Ie ha hd ((h.ko hk).old _ _ ha h1) ((h.ko hk).old _ _ hd h2)) hr hi hk)
 | dct l =>
  refine oAEEA (W5 e) fun z0 k d z1 z2=>?_;subst z0;subst z1;subst z2
  refine oEAA hp fun j z0 hj h1=>?_;subst z0
  refine .dict h1 rfl (has _ fun ps st hr hi hk=>?_)
  refine oEEAA (hr.two) fun p q z0 hp hq'=>?_;subst z0
  cases hp
  refine .get2 ((h.ko hk).old _ _ hj h1) (B9 _ _) ?_
  rw [RQ]
  exact hq _ _ (JK _ _ hq') hi hk
 | imm x =>
  cases hp
  cases p with
  | fd l =>
   refine oAEEA (W5 e) fun z0 k d z1 z2=>?_;subst z0;subst z1;subst z2
   refine .fd rfl (has _ fun ps st hr hi hk=>?_)
   refine oEEAA (hr.two) fun p q z0 hp hq'=>?_;subst z0
   cases hp
   exact ⟨k,q,rfl,hq _ _ (JK _ _ hq') hi hk⟩
  | _=>exact nO e
 | _=>exact nO e
end
end
end Mine.V
end
section
namespace Mine.V
open PySem
open scoped Classical
noncomputable section
noncomputable def Wc (C:Ac) (V:VC) (e:PE):Prop:=∀ (σv:VL) (g:G) (r:VV×G),VE V e σv g=some r→∀ (L0:Nat) (O:List Nat) (σ:Lo) (st:St) (Q:PV→St→Prop),EI L0 O σv σ g st →
 (∀ p st',Rel O st' r.1 p→EI L0 O σv σ r.2 st'→Ar B st st'→Q p st')→W tx.toTx C e σ st Q
noncomputable def ABS (C:Ac) (V:VC) (es:List PE):Prop:=∀ (σv:VL) (g:G) (r:List VV×G),Ny V es σv g=some r→∀ (L0:Nat) (O:List Nat) (σ:Lo) (st:St) (Q:List PV→St→Prop),EI L0 O σv σ g st →
 (∀ p st',AT O st' r.1 p→EI L0 O σv σ r.2 st'→Ar B st st'→Q p st')→Ws tx.toTx C es σ st Q
noncomputable def ABU (C:Ac) (V:VC) (op:BoolOp) (es:List PE):Prop:=∀ (σv:VL) (g:G) (r:VV×G),VEb V op es σv g=some r→∀ (L0:Nat) (O:List Nat) (σ:Lo) (st:St) (Q:PV→St→Prop),EI L0 O σv σ g st →
 (∀ p st',Rel O st' r.1 p→EI L0 O σv σ r.2 st'→Ar B st st'→Q p st')→Wb tx.toTx C op es σ st Q
noncomputable def WV (C:Ac) (V:VC) (e:PE):Prop:=∀ (σv:VL) (g:G) (r:Bool×G),VT V e (VE V e) σv g=some r→∀ (L0:Nat) (O:List Nat) (σ:Lo) (st:St) (Q:Bool→St→Prop),EI L0 O σv σ g st →
 (∀ st',EI L0 O σv σ r.2 st'→Ar B st st'→Q r.1 st')→T tx.toTx C e (W tx.toTx C e) σ st Q
noncomputable def AAD (C:Ac) (V:VC) (op:BoolOp) (es:List PE):Prop:=∀ (σv:VL) (g:G) (r:Bool×G),VTb V op es σv g=some r→∀ (L0:Nat) (O:List Nat) (σ:Lo) (st:St) (Q:Bool→St→Prop),EI L0 O σv σ g st →
 (∀ st',EI L0 O σv σ r.2 st'→Ar B st st'→Q r.1 st')→Tb tx.toTx C op es σ st Q
theorem bi?_ {h:PV} {b:Bi} (e:bi? h=some b):h=.bi b:=by
 cases h with
 | bi c=>exact congrArg PV.bi (Option.some.inj e)
 | _=>exact nO e
theorem M9 {C:Ac} {V:VC} {elt cond:PE} (he:Wc C V elt) (hc:WV C V cond) {t:PT} {v:PV} {its:List PV} {σv:VL} {σ:Lo} {L0:Nat} {O:List Nat} (xs:List VV) :
  ∀ (out:List VV) (g:G) (r:List VV×G),BQ (VE V elt) (VT V cond (VE V cond)) t σv xs out g=some r→∀ (st:St) (rs outs:List PV) (Q:List PV→St→Prop),AT O st xs rs→AT O st out outs→EI L0 O σv σ g st →
  (∀ st',Ar B st st'→same v its st')→(∀ ps st',AT O st' r.1 ps→EI L0 O σv σ r.2 st'→Ar B st st'→Q ps st') →
  Gd (W tx.toTx C elt) (T tx.toTx C cond (W tx.toTx C cond)) t v its σ rs outs st Q:=by
 induction xs with
 | nil =>
  intro out g r e st rs outs Q hx ho hi hs hq
  obtain rfl:=hx.unnil
  obtain rfl:=sI e
  exact hq _ _ ho hi .refl
 | cons x xs ih =>
  intro out g r e st rs outs Q hx ho hi hs hq
  refine oEEAA (hx.uncons) fun y ys z0 hx1 hx2=>?_;subst z0
  obtain ⟨σ1,e1,ea⟩:=AP e
  obtain ⟨⟨b,g1⟩,e2,e3⟩:=AP ea
  refine oEA (Ew hi.sr hx1 e1) fun σ' e4 sr=>?_
  clear e ea hx
  refine ⟨σ',e4,hc _ _ _ e2 L0 O σ' st _ (hi.withSR sr) fun st1 hi1 hk1=>?_⟩
  cases b with
  | true =>
   obtain ⟨y1,e5,e6⟩:=AP (show (VE V elt σ1 g1).bind _=some r from e3)
   refine oA (EO e6) fun hl e7=>?_
   refine he _ _ _ e5 L0 O σ' st1 _ hi1 fun p st2 El hi2 hk2=>?_
   have hk:=hk1.trans' hk2
   have ko:=hi.ko hk
   exact ⟨hs _ hk,ho.length▸hl,ih _ _ r e7 st2 ys _ Q (hx2.keep ko) ((ho.keep ko).append (.cons El .nil)) (hi.step hk hi2.gs) (fun st' h=>hs _ (hk.trans' h)) fun ps st' h1 h2 h3=>hq ps st' h1 h2 (hk.trans' h3)⟩
  | false =>
   have ko:=hi.ko hk1
   exact ⟨hs _ hk1,ih out g1 r e3 st1 ys outs Q (hx2.keep ko) (ho.keep ko) (hi.step hk1 hi1.gs) (fun st' hk=>hs _ (hk1.trans' hk)) fun ps st' h1 h2 h3=>hq ps st' h1 h2 (hk1.trans' h3)⟩
section
variable {C:Ac} {V:VC} (HC:CS C V)
theorem J4 {e:PE} (hT:T tx.toTx C e (W tx.toTx C e)=fun σ st Q=>W tx.toTx C e σ st fun v st=>∃ b,BP st v b∧Q b st)
  (hV:VT V e (VE V e)=fun σ g=>(VE V e σ g).bind fun v=>(Ch v.1).map fun b=>(b,v.2)) (h:Wc C V e):WV C V e:=by
 intro σv g r e1 L0 O σ st Q hi hq
 rw [hT]
 rw [hV] at e1
 obtain ⟨v,e2,e3⟩:=AP e1
 obtain ⟨b,e4,rfl⟩:=BV e3
 exact h _ _ _ e2 L0 O σ st _ hi fun p st1 hr hi1 hk=>⟨b,De e4 hr.sh,hq _ hi1 hk⟩
noncomputable abbrev Bth (C:Ac) (V:VC) (e:PE):Prop:=Wc C V e∧WV C V e
theorem Lx {e:PE} (hT:T tx.toTx C e (W tx.toTx C e)=fun σ st Q=>W tx.toTx C e σ st fun v st=>∃ b,BP st v b∧Q b st)
  (hV:VT V e (VE V e)=fun σ g=>(VE V e σ g).bind fun v=>(Ch v.1).map fun b=>(b,v.2)) (h:Wc C V e):Bth C V e:=⟨h,J4 hT hV h⟩
section
variable {L0:Nat} {O:List Nat} {σv:VL} {σ:Lo} {g:G} {st:St} {Q:PV→St→Prop}
noncomputable abbrev Gy (L0:Nat) (O:List Nat) (σv:VL) (σ:Lo) (st:St) (Q:PV→St→Prop) (r:VV×G):Prop:=∀ p st',Rel O st' r.1 p→EI L0 O σv σ r.2 st'→Ar B st st'→Q p st'
theorem Gy.on {st1:St} {r:VV×G} (hq:Gy L0 O σv σ st Q r) (hk:Ar B st st1):Gy L0 O σv σ st1 Q r:=fun p st' h1 h2 h3=>hq p st' h1 h2 (hk.trans' h3)
theorem Gy.imm {p:PV} (hq:Gy L0 O σv σ st Q (.imm p,g)) (hi:EI L0 O σv σ g st):Q p st:=hq p st (rfl:p=p) hi .refl
theorem Gy.lst {l:List VV} {ps:List PV} (hq:Gy L0 O σv σ st Q (.lst l,g)) (h:EI L0 O σv σ g st) (hr:AT O st l ps):Q (.obj st.length) (st++[.list ps]):=hq _ _ (h.newL hr).1 (h.newL hr).2.1 (h.newL hr).2.2
include HC
theorem EB {f:PV} {vs:List VV} {ps:List PV} {O':List Nat} {r:VV×G} (e:V f vs g=some r) (hi:EI L0 O σv σ g st) (hb:∀ i∈B,i∈O') (hs:∀ o∈O',o∈O) (hr:AT O' st vs ps) (hq:∀ p st',Rel O' st' r.1 p→EI L0 O σv σ r.2 st'→Ar B st st'→Q p st'):C f ps st Q :=
 HC _ _ _ _ e O' st ps Q hb (fun o ho=>hi.lt o (hs o ho)) (Nat.le_trans hi.seven hi.l0) hr hi.gs fun q st3 h3 h4 h5=>hq q st3 h3 (hi.step h5 h4) h5
theorem Nk {h:PV} {vs:List VV} {ps:List PV} {r:VV×G} (e:QW V h vs g=some r) (hi:EI L0 O σv σ g st) (hr:AT O st vs ps) (hq:Gy L0 O σv σ st Q r):Kr C st Q ps h:=by
 refine Or.elim (Wu e) (fun z1=>oEA z1 fun b eb e0=>?_) fun z2=>oA z2 fun _ e=>?_
 ·obtain ⟨v,e6,rfl⟩:=BV e0
  rw [bi?_ eb]
  exact .bi (Ko hi e6 (.rel hr) hq)
 ·exact .fn (EB HC e hi hi.bo (fun _ h=>h) hr hq)
theorem Nj {h:PV} {a:VV} {i:Nat} {r:VV×G} (e:QV V h a g=some r) (hi:EI L0 O σv σ g st) (ea:(Ck σv i).bind Mq=some a) (hq:Gy L0 O σv σ st Q r):∃ p,σ[i]?=some (some p)∧Kr C st Q [p] h:=by
 refine oEEAAAAA (FA hi.sr ea) fun j s _ _ h1 hl hsh hrel=>?_
 refine ⟨_,h1,?_⟩
 have hj:j∉O.filter (·≠j):=fun q=>absurd rfl (of_decide_eq_true (List.mem_filter.mp q).2)
 have hs:∀ o∈O.filter (·≠j),o∈O:=fun o ho=>(List.mem_filter.mp ho).1
 have hb:∀ i∈B,i∈O.filter (·≠j):=fun i hi'=>List.mem_filter.mpr ⟨hi.bo i hi',decide_eq_true (Nat.ne_of_lt (Nat.lt_of_lt_of_le (Wd i hi') (Nat.le_trans hi.seven hl)))⟩
 refine Or.elim (Wu e) (fun z1=>oEA z1 fun b eb e0=>?_) fun z2=>oA z2 fun _ e=>?_
 ·obtain ⟨v,e6,rfl⟩:=BV e0
  rw [bi?_ eb]
  exact .bi (Ko hi e6 (.one hsh) hq)
 ·obtain ⟨⟨v,g2⟩,e4,e5⟩:=AP e
  obtain ⟨q',rfl,e7⟩:=J3 e5
  obtain rfl:=sI e7
  exact .fn (EB HC e4 hi hb hs (.cons (hrel _ hs hj) .nil) fun p st' h3 h4 h5=>hq p st' (h3:p=q') h4 h5)
end
include HC
mutual
theorem AM:∀ (e:PE),Bth C V e
 | .loc i=>Lx rfl rfl fun σv g r e L0 O σ st Q hi hq=>by
  obtain ⟨s,e1,e2⟩:=AP e
  refine oEA (hi.sr.at' _ _ (Bp e1)) fun p h1 h2=>?_
  cases s with
  | val v=>obtain rfl:=sI e2;exact Exists.intro p ⟨h1,hq _ _ h2 hi .refl⟩
  | _=>exact nO e2
 | .int i=>Lx rfl rfl fun σv g r e L0 O σ st Q hi hq=>by obtain rfl:=sI e;exact Gy.imm hq hi
 | .str i=>Lx rfl rfl fun σv g r e L0 O σ st Q hi hq=>by obtain rfl:=sI e;exact Gy.imm hq hi
 | .bool i=>Lx rfl rfl fun σv g r e L0 O σ st Q hi hq=>by obtain rfl:=sI e;exact Gy.imm hq hi
 | .none=>Lx rfl rfl fun σv g r e L0 O σ st Q hi hq=>by obtain rfl:=sI e;exact Gy.imm hq hi
 | .gl i=>Lx rfl rfl fun σv g r e L0 O σ st Q hi hq=>by obtain rfl:=sI e;exact Gy.imm hq hi
 | .tup es=>Lx rfl rfl fun σv g r e L0 O σ st Q hi hq=>by
  obtain ⟨vs,e1,e2⟩:=AP e
  obtain rfl:=sI e2
  exact (BZ es).1 _ _ _ e1 L0 O σ st _ hi fun ps st1 hr hi1 hk=>hq _ _ (.mkTup hr) hi1 hk
 | .list es=>Lx rfl rfl fun σv g r e L0 O σ st Q hi hq=>by
  obtain ⟨vs,e1,e2⟩:=AP e
  obtain rfl:=sI e2
  exact (BZ es).1 _ _ _ e1 L0 O σ st _ hi fun ps st1 hr hi1 hk=>(Gy.on hq hk).lst hi1 hr
 | .dict es=>Lx rfl rfl fun σv g r e L0 O σ st Q hi hq=>nO e
 | .attr e a=>Lx rfl rfl fun σv g r e1 L0 O σ st Q hi hq=>by
  obtain ⟨⟨o,g1⟩,e2,e3⟩:=AP e1
  obtain ⟨v,e4,rfl⟩:=BV e3
  refine (AM e).1 _ _ _ e2 L0 O σ st _ hi fun p st1 hr hi1 hk=>?_
  cases o with
  | tab =>
   cases hr
   refine oA (EO e4) fun z0 e5=>?_;subst z0
   obtain rfl:=sI e5
   exact .mk hi1.gs.ts.inst hi1.gs.ts.attrs rfl rfl (hq _ _ (rfl:PV.obj 5=_) hi1 hk)
  | host =>
   refine oEEAAAA hr fun j d z0 _ _ h1 h2=>?_;subst z0
   refine oA (EO e4) fun z0 e5=>?_;subst z0
   obtain rfl:=sI e5
   exact .mk h1 h2 rfl rfl (hq _ _ (rfl:PV.obj 4=_) hi1 hk)
  | _=>exact nO e4
 | .sub e i=>Lx rfl rfl fun σv g r e1 L0 O σ st Q hi hq=>by
  refine Or.elim (Wu e1) (fun z1=>oEA z1 fun o ep e0=>?_) fun z2=>oA z2 fun _ e1=>?_
  ·refine oEA (Ml ep) fun k z0 ea=>?_;subst z0
   obtain ⟨k1,e3,e4⟩:=AP e0
   obtain ⟨v,e5,rfl⟩:=BV e4
   refine oEEAAA (FA hi.sr ea) fun j _ _ _ h1 _=>?_
   refine Exists.intro _ ⟨h1,(AM i).1 _ _ _ e3 L0 O σ st _ hi fun q st1 hr hi1 hk=>?_⟩
   refine oEEAAAAA (FA hi1.sr ea) fun j' _ _ _ h1' _ h2 _=>?_
   obtain rfl:=PV.obj.inj (Option.some.inj (Option.some.inj (h1.symm.trans h1')))
   refine oEA (IW e5 h2 hr hi1.gs) fun r e5 h5=>?_
   exact ⟨r,e5,hq _ _ h5 hi1 hk⟩
  ·obtain ⟨o,e2,e6⟩:=AP e1
   obtain ⟨k1,e3,e4⟩:=AP e6
   obtain ⟨v,e5,rfl⟩:=BV e4
   refine (AM e).1 _ _ _ e2 L0 O σ st _ hi fun p st1 B2 hi1 hk1=>(AM i).1 _ _ _ e3 L0 O σ st1 _ hi1 fun q st2 El hi2 hk2=>?_
   refine oEA (IW e5 (B2.keep (hi1.ko hk2)).sh El hi2.gs) fun r e5 h5=>?_
   exact ⟨r,e5,hq _ _ h5 hi2 (hk1.trans' hk2)⟩
 | .slTo e h=>Lx rfl rfl fun σv g r e1 L0 O σ st Q hi hq=>by
  obtain ⟨o,e2,ea⟩:=AP e1
  obtain ⟨k,e3,eb⟩:=AP ea
  obtain ⟨v,e4,rfl⟩:=BV eb
  refine (AM e).1 _ _ _ e2 L0 O σ st _ hi fun p st1 B2 hi1 hk1=>(AM h).1 _ _ _ e3 L0 O σ st1 _ hi1 fun q st2 El hi2 hk2=>?_
  have B2:=B2.keep (hi1.ko hk2)
  obtain ⟨l,ho,ec⟩:=Ro e4
  obtain ⟨m,hm,ed⟩:=Ez ec
  refine oA (EO ed) fun hc ee=>?_
  rw [ho] at B2;rw [hm] at El
  refine oEEAAA B2 fun j ps z0 hj h1 h2=>?_;subst z0
  obtain rfl:=sI ee
  exact ⟨m,El,hc.1,.list h1 (h2.length▸hc.2.2) ((Gy.on hq (hk1.trans' hk2)).lst hi2 (h2.take m.toNat))⟩
 | .slFrom e h=>Lx rfl rfl fun σv g r e1 L0 O σ st Q hi hq=>by
  obtain ⟨o,e2,ea⟩:=AP e1
  obtain ⟨k,e3,eb⟩:=AP ea
  obtain ⟨v,e4,rfl⟩:=BV eb
  refine (AM e).1 _ _ _ e2 L0 O σ st _ hi fun p st1 B2 hi1 hk1=>(AM h).1 _ _ _ e3 L0 O σ st1 _ hi1 fun q st2 El hi2 hk2=>?_
  have B2:=B2.keep (hi1.ko hk2)
  have hq:=Gy.on hq (hk1.trans' hk2)
  obtain ⟨m,hm,ed⟩:=Ez e4
  rw [hm] at El
  obtain ⟨o,g1⟩:=o
  refine ⟨m,El,?_⟩
  cases o with
  | imm x =>
   obtain ⟨l,rfl,ee⟩:=Xv ed
   refine oA (EO ee) fun hc ef=>?_
   cases B2;obtain rfl:=sI ef
   exact .tup hc.1 hc.2.1 hc.2.2 (hq.imm hi2)
  | lst l =>
   refine oA (EO ed) fun hc ef=>?_
   refine oEEAAA B2 fun j ps z0 hj h1 h2=>?_;subst z0
   obtain rfl:=sI ef
   have hl:=h2.length
   obtain ⟨rfl,_,hc⟩:=hc
   rw [hl] at hc hq
   exact .list h1 hc (hq.lst hi2 (h2.drop _))
  | _=>exact nO ed
 | .rev e=>Lx rfl rfl fun σv g r e1 L0 O σ st Q hi hq=>by
  obtain ⟨o,e2,e3⟩:=AP e1
  obtain ⟨v,e4,rfl⟩:=BV e3
  refine (AM e).1 _ _ _ e2 L0 O σ st _ hi fun p st1 B2 hi1 hk1=>?_
  obtain ⟨l,ho,ec⟩:=Ro e4
  refine oA (EO ec) fun hc ee=>?_
  rw [ho] at B2
  refine oEEAAA B2 fun j ps z0 hj h1 h2=>?_;subst z0
  obtain rfl:=sI ee
  exact ⟨j,ps,rfl,h1,h2.length▸hc,(Gy.on hq hk1).lst hi1 h2.reverse⟩
 | .call f as=>Lx rfl rfl fun σv g r e1 L0 O σ st Q hi hq=>by
  obtain ⟨⟨fv,g1⟩,e2,e3⟩:=AP e1
  obtain ⟨h,rfl,e4⟩:=J3 e3
  refine (AM f).1 _ _ _ e2 L0 O σ st _ hi fun fp st1 B2 hi1 hk1=>?_
  cases B2
  have hq:=Gy.on hq hk1
  refine Or.elim (Wu e4) (fun z1=>oEA z1 fun a ep e0=>?_) fun z2=>oA z2 fun _ e4=>?_
  ·refine oEA (DX ep) fun e z0 ea=>?_;subst z0
   refine oEA (Ml ea) fun i z0 eb=>?_;subst z0
   exact Nj HC e0 hi1 eb hq
  ·obtain ⟨x,e5,e6⟩:=AP e4
   exact (BZ as).1 _ _ _ e5 L0 O σ st1 _ hi1 fun ps st2 El hi2 hk2=>Nk HC e6 hi2 El (Gy.on hq hk2)
 | .meth o m as=>Lx rfl rfl fun σv g r e1 L0 O σ st Q hi hq=>by
  obtain ⟨b,e2,ea⟩:=AP e1
  obtain ⟨x,e3,e4⟩:=AP ea
  exact (AM o).1 _ _ _ e2 L0 O σ st _ hi fun p st1 B2 hi1 hk1=>Of HC hi1 B2 (fun Q' h=>(BZ as).1 _ _ _ e3 L0 O σ st1 Q' hi1 h) e4 (Gy.on hq hk1)
 | .bin op a b=>Lx rfl rfl fun σv g r e1 L0 O σ st Q hi hq=>by
  obtain ⟨u,e2,ea⟩:=AP e1
  obtain ⟨v,e3,eb⟩:=AP ea
  obtain ⟨z,e4,rfl⟩:=BV eb
  exact (AM a).1 _ _ _ e2 L0 O σ st _ hi fun p st1 B2 hi1 hk1=>(AM b).1 _ _ _ e3 L0 O σ st1 _ hi1 fun q st2 El hi2 hk2=>PY hi2 e4 (B2.keep (hi1.ko hk2)) El (Gy.on hq (hk1.trans' hk2))
 | .cmp op a b=>Lx rfl rfl fun σv g r e1 L0 O σ st Q hi hq=>by
  obtain ⟨u,e2,ea⟩:=AP e1
  obtain ⟨v,e3,eb⟩:=AP ea
  obtain ⟨z,e4,rfl⟩:=BV eb
  exact (AM a).1 _ _ _ e2 L0 O σ st _ hi fun p st1 B2 hi1 hk1=>(AM b).1 _ _ _ e3 L0 O σ st1 _ hi1 fun q st2 El hi2 hk2=>⟨z,PN e4 (B2.keep (hi1.ko hk2)) El,(Gy.on hq (hk1.trans' hk2)).imm hi2⟩
 | .bop op es=>⟨fun σv g r e1 L0 O σ st Q hi hq=>(BZ es).2.1 op σv g r e1 L0 O σ st Q hi hq,fun σv g r e1 L0 O σ st Q hi hq=>(BZ es).2.2 op σv g r e1 L0 O σ st Q hi hq⟩
 | .not e=>⟨fun σv g r e1 L0 O σ st Q hi hq=>by
  obtain ⟨u,e2,e3⟩:=AP e1
  obtain ⟨b,e4,rfl⟩:=BV e3
  exact (AM e).1 _ _ _ e2 L0 O σ st _ hi fun p st1 B2 hi1 hk1=>⟨b,De e4 B2.sh,(Gy.on hq hk1).imm hi1⟩,fun σv g r e1 L0 O σ st Q hi hq=>by
  obtain ⟨b,e2,rfl⟩:=BV e1
  exact (AM e).2 _ _ _ e2 L0 O σ st _ hi hq⟩
 | .ite c a b=>⟨fun σv g r e1 L0 O σ st Q hi hq=>by
  obtain ⟨⟨t,g1⟩,e2,e3⟩:=AP e1
  refine (AM c).2 _ _ _ e2 L0 O σ st _ hi fun st1 hi1 hk1=>?_
  cases t with
  | true=>exact (AM a).1 _ _ _ e3 L0 O σ st1 _ hi1 (Gy.on hq hk1)
  | false=>exact (AM b).1 _ _ _ e3 L0 O σ st1 _ hi1 (Gy.on hq hk1),fun σv g r e1 L0 O σ st Q hi hq=>by
  obtain ⟨⟨t,g1⟩,e2,e3⟩:=AP e1
  refine (AM c).2 _ _ _ e2 L0 O σ st _ hi fun st1 hi1 hk1=>?_
  cases t with
  | true=>exact (AM a).2 _ _ _ e3 L0 O σ st1 _ hi1 fun st2 h2 h3=>hq st2 h2 (hk1.trans' h3)
  | false=>exact (AM b).2 _ _ _ e3 L0 O σ st1 _ hi1 fun st2 h2 h3=>hq st2 h2 (hk1.trans' h3)⟩
 | .comp elt t it cond=>Lx rfl rfl fun σv g r e1 L0 O σ st Q hi hq=>by
  obtain ⟨v,e2,ea⟩:=AP e1
  obtain ⟨its,e3,eb⟩:=AP ea
  obtain ⟨x,e4,rfl⟩:=BV eb
  refine (AM it).1 _ _ _ e2 L0 O σ st _ hi fun p st1 B2 hi1 hk1=>?_
  refine oEAA (Gh e3 B2) fun rs h1 h2 h3=>?_
  exact ⟨rs,h1,M9 (AM elt).1 (AM cond).2 its [] v.2 x e4 st1 rs [] _ h2 .nil hi1 (fun st' hk=>h3 st' (hi1.ko hk)) fun ps st2 h4 h5 h6=>(Gy.on hq (hk1.trans' h6)).lst h5 h4⟩
 | .stuck=>⟨fun σv g r e L0 O σ st Q hi hq=>(nO e),fun σv g r e L0 O σ st Q hi hq=>nO e⟩
theorem BZ:∀ (es:List PE),ABS C V es∧(∀ op,ABU C V op es)∧∀ op,AAD C V op es
 | []=>⟨fun σv g r e L0 O σ st Q hi hq=>by obtain rfl:=sI e;exact hq _ _ .nil hi .refl,fun op σv g r e L0 O σ st Q hi hq=>(nO e),fun op σv g r e L0 O σ st Q hi hq=>by obtain rfl:=sI e;exact hq _ hi .refl⟩
 | e::es=>⟨fun σv g r e1 L0 O σ st Q hi hq=>by
  obtain ⟨v,e2,e3⟩:=AP e1
  obtain ⟨vs,e4,rfl⟩:=BV e3
  exact (AM e).1 _ _ _ e2 L0 O σ st _ hi fun p st1 B2 hi1 hk1=>(BZ es).1 _ _ _ e4 L0 O σ st1 _ hi1 fun ps st2 El hi2 hk2=>hq _ _ (.cons (B2.keep (hi1.ko hk2)) El) hi2 (hk1.trans' hk2),fun op σv g r e1 L0 O σ st Q hi hq=>by
  cases es with
  | nil=>exact (AM e).1 _ _ _ e1 L0 O σ st _ hi fun p st1 B2 hi1 hk1=>.inl ⟨rfl,hq _ _ B2 hi1 hk1⟩
  | cons e2 es =>
   obtain ⟨v,e3,ea⟩:=AP e1
   obtain ⟨b,e4,e5⟩:=AP ea
   refine (AM e).1 _ _ _ e3 L0 O σ st _ hi fun p st1 B2 hi1 hk1=>.inr ⟨List.cons_ne_nil _ _,b,De e4 B2.sh,fun hb=>?_,fun hb=>?_⟩
   ·rw [if_pos hb] at e5;obtain rfl:=sI e5;exact hq _ _ B2 hi1 hk1
   ·rw [if_neg (by rw [hb];cases op<;>decide)] at e5
    exact (BZ (e2::es)).2.1 op _ _ _ e5 L0 O σ st1 _ hi1 (Gy.on hq hk1),fun op σv g r e1 L0 O σ st Q hi hq=>by
  obtain ⟨b,e2,e5⟩:=AP e1
  refine (AM e).2 _ _ _ e2 L0 O σ st _ hi fun st1 hi1 hk1=>⟨fun hb=>?_,fun hb=>?_⟩
  ·rw [if_pos hb] at e5;obtain rfl:=sI e5;exact hq _ hi1 hk1
  ·rw [if_neg (by rw [hb];cases op<;>decide)] at e5
   exact (BZ es).2.2 op _ _ _ e5 L0 O σ st1 _ hi1 fun st2 h2 h3=>hq st2 h2 (hk1.trans' h3)⟩
end
end
end
end Mine.V
end
section
namespace Mine.V
open PySem
open scoped Classical
noncomputable section
structure Go (L0:Nat) (O:List Nat) (st:St) (O':List Nat) (st':St):Prop where
 keep:Ar O st st'
 low:∀ i o,i<L0→i∉B→st[i]?=some o→st'[i]?=some o
 sub:∀ o∈O',o∈O∨st.length≤o
 stay:∀ o∈O,o<L0→o∈O'
theorem Go.refl {L0:Nat} {O:List Nat} {st:St}:Go L0 O st O st:=⟨.refl,fun _ _ _ _ h=>h,fun _ h=>.inl h,fun _ h _=>h⟩
theorem Go.trans {L0:Nat} {O O1 O2:List Nat} {a b c:St} (h:Go L0 O a O1 b) (h':Go L0 O1 b O2 c):Go L0 O a O2 c :=
 ⟨h.keep.trans h'.keep h.sub,fun i o hi hb e=>h'.low i o hi hb (h.low i o hi hb e),fun o ho=>(h'.sub o ho).elim (fun h1=>h.sub o h1) (fun h1=>.inr (Nat.le_trans h.keep.len h1)),fun o ho hl=>h'.stay o (h.stay o ho hl) hl⟩
theorem EI.go {L0:Nat} {O:List Nat} {σv:VL} {σ:Lo} {g:G} {st st':St} (h:EI L0 O σv σ g st) (hk:Ar B st st'):Go L0 O st O st' :=
 ⟨h.ko hk,fun i o _ hb e=>hk.old i o hb e,fun _ h=>.inl h,fun _ h _=>h⟩
theorem Re {L0:Nat} {O:List Nat} {σv:VL} {σ:Lo} {g:G} {st:St} (h:EI L0 O σv σ g st) (i:Nat):∃ O',EI L0 O' (W7 σv i) σ g st∧Go L0 O st O' st:=by
 unfold W7
 cases eo:(Ck σv i).bind Mq with
 | none=>exact ⟨O,h,.refl⟩
 | some v =>
  refine oEEAAAAA (FA h.sr eo) fun j s e1 e2 e3 hj _ hr=>?_
  have hsub:∀ o∈O.filter (·≠j),o∈O:=fun o ho=>(List.mem_filter.mp ho).1
  have hn:j∉O.filter (·≠j):=fun q=>absurd rfl (of_decide_eq_true (List.mem_filter.mp q).2)
  have hin:∀ o∈O,o≠j→o∈O.filter (·≠j):=fun o ho hne=>List.mem_filter.mpr ⟨ho,decide_eq_true hne⟩
  refine ⟨O.filter (·≠j),⟨⟨List.length_set.trans h.sr.len,fun k s' e=>?_,fun a b s1 s2 p hab ea eb oa ob ha hb=>?_⟩,h.gs,fun k hk=>hin k (h.bo k hk) (Nat.ne_of_lt (Nat.lt_of_lt_of_le (Wd k hk) (Nat.le_trans h.seven hj))),fun o ho=>h.lt o (hsub o ho),h.l0,h.seven⟩,.refl,fun _ _ _ _ h=>h,fun o ho=>.inl (hsub o ho),fun o ho hl=>hin o ho (Nat.ne_of_lt (Nat.lt_of_lt_of_le hl hj))⟩
  ·rcases CN e with ⟨rfl,rfl,_⟩ | ⟨hk,e⟩
   ·exact ⟨_,e3,hr _ hsub hn⟩
   ·refine oEA (h.sr.at' k s' e) fun p h1 h2=>?_
    refine ⟨p,h1,?_⟩
    have ne:∀ j',s'.isOwn=true→p=.obj j'→j'≠j:=fun j' ho hp e'=>h.sr.apart i k s _ _ hk e1 e e2 ho e3 (by rw [h1,hp,e'])
    cases s' with
    | val v=>exact Rel.anti h2 hsub
    | own l =>
     refine oEEAAAA h2 fun j' ps z0 h3 h4 h5 h6=>?_;subst z0
     exact ⟨j',ps,rfl,hin _ h3 (ne j' rfl rfl),h4,h5,h6.anti hsub⟩
    | ownD l =>
     refine oEAAA h2 fun j' z0 h3 h4 h5=>?_;subst z0
     exact ⟨j',rfl,hin _ h3 (ne j' rfl rfl),h4,h5⟩
  ·rcases CN ea with ⟨_,rfl,_⟩ | ⟨_,ea⟩
   ·exact nB oa
   ·rcases CN eb with ⟨_,rfl,_⟩ | ⟨_,eb⟩
    ·exact nB ob
    ·exact h.sr.apart a b s1 s2 p hab ea eb oa ob ha hb
theorem BG {L0:Nat} {σ:Lo} {g:G} {st:St} (ls:List Nat):∀ (O:List Nat) (σv:VL),EI L0 O σv σ g st→∃ O',EI L0 O' (fz ls σv) σ g st∧Go L0 O st O' st:=by
 induction ls with
 | nil=>exact fun O σv h=>⟨O,h,.refl⟩
 | cons i ls ih =>
  intro O σv h
  refine oEA (Re h i) fun O1 h1 g1=>?_
  refine oEA (ih O1 _ h1) fun O2 h2 g2=>?_
  exact ⟨O2,h2,g1.trans g2⟩
theorem EI.setNew {L0:Nat} {O:List Nat} {σv:VL} {σ:Lo} {g:G} {st:St} (h:EI L0 O σv σ g st) (i:Nat) {s:VS} {o:PO} (hs:Yl L0 (st.length::O) (st++[o]) s (.obj st.length)) :
  EI L0 (st.length::O) (σv.set i (some s)) (σ.set i (some (.obj st.length))) g (st++[o])∧Go L0 O st (st.length::O) (st++[o]):=by
 have hsub:∀ o∈st.length::O,o∈O∨st.length≤o:=fun o ho=>(mC ho).elim (fun e=>.inr (Nat.le_of_eq e.symm)) .inl
 have hold:∀ {k:Nat} {x:PO},st[k]?=some x→(st++[o])[k]?=some x:=fun e=>(Ar.app (O:=[])).old _ _ (fun q=>nL q) e
 have Cp:(st++[o]).length=st.length+1:=List.length_append
 have lt:∀ (k:Nat) (s':VS) (p:PV),σv[k]?=some (some s')→s'.isOwn=true→σ[k]?=some (some p)→p≠.obj st.length:=fun k s' p e o e' q=>by
  refine oEA (h.sr.at' k s' e) fun p' h1 h2=>?_
  obtain rfl:=Option.some.inj (Option.some.inj (e'.symm.trans h1))
  cases s' with
  | val v=>exact nB o
  | own l=>refine oEEAAAA h2 fun j' ps z0 h3 h4 h5 h6=>?_;subst z0;exact Nat.ne_of_lt (gI h5).1 (PV.obj.inj q)
  | ownD l=>refine oEAAA h2 fun j' z0 h3 h4 h5=>?_;subst z0;exact Nat.ne_of_lt (gI h5).1 (PV.obj.inj q)
 refine ⟨⟨⟨by rw [List.length_set,List.length_set,h.sr.len],fun k s' e=>?_,fun a b s1 s2 p hab ea eb oa ob ha hb=>?_⟩,h.gs.app,fun k hk=>.tail _ (h.bo k hk),fun x hx=>?_,?_,h.seven⟩,.app,fun k x _ _ e=>hold e,hsub,fun x hx _=>.tail _ hx⟩
 ·rcases CN e with ⟨rfl,rfl,hi⟩ | ⟨hk,e⟩
  ·exact ⟨_,List.getElem?_set_self (h.sr.len▸hi),hs⟩
  ·rw [List.getElem?_set_ne hk]
   refine oEA (h.sr.at' k s' e) fun p h1 h2=>?_
   refine ⟨p,h1,?_⟩
   cases s' with
   | val v=>exact Rel.mono hsub .app _ _ h2
   | own l =>
    refine oEEAAAA h2 fun j' ps z0 h3 h4 h5 h6=>?_;subst z0
    exact ⟨j',ps,rfl,.tail _ h3,h4,hold h5,AT.mono hsub .app _ _ h6⟩
   | ownD l =>
    refine oEAAA h2 fun j' z0 h3 h4 h5=>?_;subst z0
    exact ⟨j',rfl,.tail _ h3,h4,hold h5⟩
 ·rcases CN ha with ⟨rfl,rfl,_⟩ | ⟨na,ha⟩
  ·rcases CN hb with ⟨rfl,_⟩ | ⟨nb,hb⟩
   ·exact hab rfl
   ·rw [List.getElem?_set_ne nb] at eb
    exact lt b s2 _ eb ob hb rfl
  ·rw [List.getElem?_set_ne na] at ea
   rcases CN hb with ⟨rfl,rfl,_⟩ | ⟨nb,hb⟩
   ·exact lt a s1 _ ea oa ha rfl
   ·rw [List.getElem?_set_ne nb] at eb
    exact h.sr.apart a b s1 s2 p hab ea eb oa ob ha hb
 ·rw [Cp]
  exact (mC hx).elim (fun e=>e▸Nat.lt_succ_self _) fun hx=>Nat.lt_succ_of_lt (h.lt x hx)
 ·rw [Cp];exact Nat.le_succ_of_le h.l0
theorem EI.upd {L0:Nat} {O:List Nat} {σv:VL} {σ:Lo} {g:G} {st:St} (h:EI L0 O σv σ g st) {i j:Nat} {s s':VS} {o:PO} (e:σv[i]?=some (some s)) (hs:s.isOwn=true) (e1:σ[i]?=some (some (.obj j))) (hj:j∈O) (hl:L0≤j)
  (hs':Yl L0 O (st.set j o) s' (.obj j)):EI L0 O (σv.set i (some s')) σ g (st.set j o)∧Go L0 O st O (st.set j o):=by
 have low:∀ k x,k<L0→st[k]?=some x→(st.set j o)[k]?=some x:=fun k x hk e=>(List.getElem?_set_ne (Nat.ne_of_gt (Nat.lt_of_lt_of_le hk hl))).trans e
 have h7:=h.seven
 have Cp:(st.set j o).length=st.length:=List.length_set
 refine ⟨⟨⟨List.length_set.trans h.sr.len,fun k s1 ek=>?_,fun a b s1 s2 p hab ea eb oa ob ha hb=>?_⟩,h.gs.keep fun k x hk e=>low k x (Nat.lt_of_lt_of_le hk h7) e,h.bo,fun x hx=>by rw [Cp];exact h.lt x hx,by rw [Cp];exact h.l0,h7⟩,.set hj,fun k x hk _ e=>low k x hk e,fun x hx=>.inl hx,fun x hx _=>hx⟩
 ·rcases CN ek with ⟨rfl,rfl,_⟩ | ⟨hk,ek⟩
  ·exact ⟨_,e1,hs'⟩
  ·refine oEA (h.sr.at' k s1 ek) fun p h1 h2=>?_
   refine ⟨p,h1,?_⟩
   have ne:∀ j',s1.isOwn=true→p=.obj j'→j≠j':=fun j' ho hp e'=>h.sr.apart i k s _ _ hk e ek hs ho e1 (by rw [h1,hp,e'])
   cases s1 with
   | val v=>exact Rel.keep h2 (.set hj)
   | own l =>
    refine oEEAAAA h2 fun j' ps z0 h3 h4 h5 h6=>?_;subst z0
    exact ⟨j',ps,rfl,h3,h4,(List.getElem?_set_ne (ne j' rfl rfl)).trans h5,h6.keep (.set hj)⟩
   | ownD l =>
    refine oEAAA h2 fun j' z0 h3 h4 h5=>?_;subst z0
    exact ⟨j',rfl,h3,h4,(List.getElem?_set_ne (ne j' rfl rfl)).trans h5⟩
 ·have back:∀ (k:Nat) (s1:VS),(σv.set i (some s'))[k]?=some (some s1)→s1.isOwn=true→∃ s2,σv[k]?=some (some s2)∧s2.isOwn=true:=fun k s1 ek ok=>(CN ek).elim (fun q=>⟨s,q.1▸e,hs⟩) fun q=>⟨s1,q.2,ok⟩
  refine oEA (back a s1 ea oa) fun t1 ea' oa'=>?_
  refine oEA (back b s2 eb ob) fun t2 eb' ob'=>?_
  exact h.sr.apart a b t1 t2 p hab ea' eb' oa' ob' ha hb
theorem NA (l:List (PV×PV)) (k:PV):((l.find? fun p=>decide (p.1=k)).map (·.2)).isSome=decide (k∈l.map (·.1)):=by
 induction l with
 | nil=>rfl
 | cons x xs ih =>
  rw [List.find?_cons]
  by_cases e:x.1=k
  ·rw [decide_eq_true e];exact (decide_eq_true (List.mem_cons.mpr (.inl e.symm))).symm
  ·rw [decide_eq_false e,ih]
   exact decide_eq_decide.mpr ⟨fun h=>.tail _ h,fun h=>(mC h).resolve_left fun q=>e q.symm⟩
theorem GL (l:List (Int×Int)) (k v:Int):put (encD l) (.int k) (.int v)=encD (putD l k v):=by
 unfold put putD
 have h1:(look (encD l) (.int k)).isSome=decide (k∈l.map (·.1)):=by
  rw [look,NA,FK]
  exact decide_eq_decide.mpr mem_map_int
 rw [h1]
 by_cases h:k∈l.map (·.1)
 ·rw [if_pos h,if_pos (decide_eq_true h)]
  unfold encD
  rw [List.map_map,List.map_map]
  refine List.map_congr_left fun p _=>?_
  show (if PV.int p.1=PV.int k then _ else _)=_
  by_cases hp:p.1=k
  ·rw [if_pos (congrArg PV.int hp)];show _=(PV.int (if p.1=k then (p.1,v) else p).1,PV.int (if p.1=k then (p.1,v) else p).2);rw [if_pos hp]
  ·rw [if_neg fun e=>hp (PV.int.inj e)];show _=(PV.int (if p.1=k then (p.1,v) else p).1,PV.int (if p.1=k then (p.1,v) else p).2);rw [if_neg hp]
 ·rw [if_neg h,if_neg (fun x=>h (of_decide_eq_true x))]
  exact (List.map_append (l₁:=l) (l₂:=[(k,v)])).symm
end
end Mine.V
end
section
namespace Mine.V
open PySem
open scoped Classical
noncomputable section
noncomputable def Jk (O:List Nat) (st:St):U1→Fl→Prop
 | .next,.next=>True
 | .ret v,.ret p=>Rel O st v p
 | _,_=>False
noncomputable def ABN (C:Ac) (V:VC) (p:PS):Prop:=∀ (σv:VL) (g:G) (r:U1×VL×G),VX V p σv g=some r→∀ (L0:Nat) (O:List Nat) (σ:Lo) (st:St) (Q:Fl→Lo→St→Prop),EI L0 O σv σ g st →
 (∀ fl O' σ' st',Jk O' st' r.1 fl→EI L0 O' r.2.1 σ' r.2.2 st'→Go L0 O st O' st'→Q fl σ' st')→X tx.toTx C p σ st Q
noncomputable def Us (C:Ac) (V:VC) (ps:List PS):Prop:=∀ (σv:VL) (g:G) (r:U1×VL×G),Bv V ps σv g=some r→∀ (L0:Nat) (O:List Nat) (σ:Lo) (st:St) (Q:Fl→Lo→St→Prop),EI L0 O σv σ g st →
 (∀ fl O' σ' st',Jk O' st' r.1 fl→EI L0 O' r.2.1 σ' r.2.2 st'→Go L0 O st O' st'→Q fl σ' st')→Xs tx.toTx C ps σ st Q
noncomputable def JS (C:Ac) (V:VC):Prop:=∀ vs g r,V (.fn 18) vs g=some r→∀ (j:Nat) (l:List (Int×Int)) (st:St) (Q:PV→St→Prop),st[j]?=some (.dict (encD l))→l.length≤1000→Q .none (st.set j (.dict (encD (CT l))))→C (.fn 16) [.obj j] st Q
theorem Jk.next {O:List Nat} {st:St} {fl:Fl} (h:Jk O st .next fl):fl=.next:=by cases fl with | next=>rfl | ret p=>exact h.elim
theorem Jk.ret {O:List Nat} {st:St} {fl:Fl} {v:VV} (h:Jk O st (.ret v) fl):∃ p,fl=.ret p∧Rel O st v p:=by cases fl with | next=>exact h.elim | ret p=>exact ⟨p,rfl,h⟩
noncomputable abbrev Ca (L0:Nat) (O:List Nat) (st:St) (Q:Fl→Lo→St→Prop) (r:U1×VL×G):Prop:=∀ fl O' σ' st',Jk O' st' r.1 fl→EI L0 O' r.2.1 σ' r.2.2 st'→Go L0 O st O' st'→Q fl σ' st'
theorem Ca.on {L0:Nat} {O O1:List Nat} {st st1:St} {Q:Fl→Lo→St→Prop} {r:U1×VL×G} (hq:Ca L0 O st Q r) (hg:Go L0 O st O1 st1):Ca L0 O1 st1 Q r:=fun fl O' σ' st' h1 h2 h3=>hq fl O' σ' st' h1 h2 (hg.trans h3)
theorem Ca.now {L0:Nat} {O:List Nat} {st:St} {Q:Fl→Lo→St→Prop} {σv:VL} {g:G} {σ:Lo} (hq:Ca L0 O st Q (.next,σv,g)) (hi:EI L0 O σv σ g st):Q .next σ st:=hq .next O σ st trivial hi .refl
theorem M8 {C:Ac} {V:VC} {body:List PS} (hb:Us C V body) {t:PT} {v:PV} {its:List PV} {L0:Nat} (ys:List VV) :
  ∀ (σv:VL) (g:G) (r:U1×VL×G),AU (Bv V body) t ys σv g=some r→∀ (O:List Nat) (σ:Lo) (st:St) (rs:List PV) (Q:Fl→Lo→St→Prop),AT O st ys rs→EI L0 O σv σ g st →
  (∀ st',Ar O st st'→same v its st')→Ca L0 O st Q r→KW (Xs tx.toTx C body) t v its rs σ st Q:=by
 induction ys with
 | nil =>
  intro σv g r e O σ st rs Q hr hi hs hq
  obtain rfl:=hr.unnil
  obtain rfl:=sI e
  exact hq.now hi
 | cons y ys ih =>
  intro σv g r e O σ st rs Q hr hi hs hq
  refine oEEAA (hr.uncons) fun p ps z0 B2 El=>?_;subst z0
  obtain ⟨σ1,e1,ea⟩:=AP e
  obtain ⟨⟨f,σ2,g2⟩,e2,e3⟩:=AP ea
  refine oEA (Ew hi.sr B2 e1) fun σ' e4 sr=>?_
  refine ⟨σ',e4,hb _ _ _ e2 L0 O σ' st _ (hi.withSR sr) fun fl O1 σ2 st1 hf hi1 hg=>?_⟩
  cases f with
  | next =>
   rw [hf.next]
   exact ⟨hs _ hg.keep,ih _ _ r e3 O1 σ2 st1 ps Q (AT.mono hg.sub hg.keep _ _ El) hi1 (fun st' hk=>hs _ (hg.keep.trans hk hg.sub)) (hq.on hg)⟩
  | ret w =>
   refine oEA (hf.ret) fun p z0 hp=>?_;subst z0
   obtain rfl:=sI e3
   exact hq _ _ _ _ hp hi1 hg
theorem M7 {C:Ac} {V:VC} {c:PE} {ls:List Nat} {body:List PS} (hc:WV C V c) (hb:Us C V body) {L0:Nat} (k:Nat) :
  ∀ (σv:VL) (g:G) (r:U1×VL×G),CO (VT V c (VE V c)) ls (Bv V body) k σv g=some r→∀ (O:List Nat) (σ:Lo) (st:St) (Q:Fl→Lo→St→Prop),EI L0 O σv σ g st →
  Ca L0 O st Q r→QE (T tx.toTx C c (W tx.toTx C c)) (Xs tx.toTx C body) k σ st Q:=by
 induction k with
 | zero=>exact fun _ _ _ e=>nO e
 | succ k ih =>
  intro σv g r e O σ st Q hi hq
  obtain ⟨⟨b,g1⟩,e1,e2⟩:=AP e
  refine oEA (BG ls O σv hi) fun O0 hi0 hg0=>?_
  refine hc _ _ _ e1 L0 O0 σ st _ hi0 fun st1 hi1 hk1=>?_
  have hq:=hq.on (hg0.trans (hi0.go hk1))
  cases b with
  | true =>
   obtain ⟨⟨f,σ2,g2⟩,e3,e4⟩:=AP (show (Bv V body (fz ls σv) g1).bind _=some r from e2)
   refine hb _ _ _ e3 L0 O0 σ st1 _ hi1 fun fl O1 σ2 st2 hf hi2 hg2=>?_
   cases f with
   | next =>
    rw [hf.next]
    exact ih _ _ r e4 O1 σ2 st2 Q hi2 (hq.on hg2)
   | ret w =>
    refine oEA (hf.ret) fun p z0 hp=>?_;subst z0
    obtain rfl:=sI e4
    exact hq _ _ _ _ hp hi2 hg2
  | false=>cases e2;exact hq.now hi1
theorem LK (es:List (Nat×Int)):∀ kvs:List (Int×Int),OV es=some kvs→HR tx.toTx es (encD kvs):=by
 induction es with
 | nil=>intro kvs e;obtain rfl:=sI e;exact .nil
 | cons p r ih =>
  intro kvs e
  obtain ⟨k,e1,ea⟩:=ZE e
  obtain ⟨l,e2,rfl⟩:=BV ea
  exact .cons e1 (ih l e2)
theorem PD (kvs:List (Int×Int)):∀ d:List (Int×Int),(encD kvs).foldl (fun d p=>put d p.1 p.2) (encD d)=encD (kvs.foldl (fun d p=>putD d p.1 p.2) d):=by
 induction kvs with
 | nil=>exact fun _=>rfl
 | cons p kvs ih =>
  intro d
  show (encD kvs).foldl (fun d p=>put d p.1 p.2) (put (encD d) (.int p.1) (.int p.2))=_
  rw [GL]
  exact ih _
section
variable {C:Ac} {V:VC} (HC:CS C V) (HJ:JS C V) {L0:Nat} {O:List Nat} {σv:VL} {g:G} {σ:Lo} {st:St} {Q:Fl→Lo→St→Prop} {r:U1×VL×G}
include HC
theorem Y7 {i:Nat} {e:PE} (e1:OS V i e σv g=some r) (hi:EI L0 O σv σ g st) (hq:Ca L0 O st Q r):X tx.toTx C (.assign i e) σ st Q:=by
 obtain ⟨v,e2,e3⟩:=AP e1
 obtain rfl:=sI e3
 exact (AM HC e).1 _ _ _ e2 L0 O σ st _ hi fun p st1 hr hi1 hk=>(hq.on (hi.go hk)).now (hi1.withSR (hi1.sr.set hr i))
theorem X8 {i:Nat} {es:List PE} (e1:Wx V i es σv g=some r) (hi:EI L0 O σv σ g st) (hq:Ca L0 O st Q r):X tx.toTx C (.assign i (.list es)) σ st Q:=by
 obtain ⟨vs,e2,e3⟩:=AP e1
 obtain rfl:=sI e3
 refine (BZ HC es).1 _ _ _ e2 L0 O σ st _ hi fun ps st1 hr hi1 hk=>?_
 have:=hi1.setNew i (s:=.own vs.1) (o:=.list ps) ⟨st1.length,ps,rfl,.head _,hi1.l0,List.getElem?_concat_length,AT.mono (fun o ho=>(mC ho).elim (fun e=>.inr (Nat.le_of_eq e.symm)) .inl) .app _ _ hr⟩
 exact (hq.on ((hi.go hk).trans this.2)).now this.1
theorem YN {i:Nat} {es:List (Nat×Int)} (e1:W9 i es σv g=some r) (hi:EI L0 O σv σ g st) (hq:Ca L0 O st Q r):X tx.toTx C (.assign i (.dict es)) σ st Q:=by
 obtain ⟨kvs,e2,ea⟩:=AP e1
 refine oA (EO ea) fun hl e3=>?_
 obtain rfl:=sI e3
 refine ⟨encD kvs,LK _ _ e2,(Eu kvs).symm▸hl,?_⟩
 rw [show ([]:List (PV×PV))=encD [] from rfl,PD]
 have:=hi.setNew i (s:=.ownD (kvs.foldl (fun d p=>putD d p.1 p.2) [])) (o:=.dict (encD (kvs.foldl (fun d p=>putD d p.1 p.2) []))) ⟨st.length,rfl,.head _,hi.l0,List.getElem?_concat_length⟩
 exact (hq.on this.2).now this.1
theorem MG {i:Nat} {e:PE} (e1:Qd V i e σv g=some r) (hi:EI L0 O σv σ g st) (hq:Ca L0 O st Q r):X tx.toTx C (.assign i e) σ st Q:=by
 refine Or.elim (Wu e1) (fun z1=>oEA z1 fun es el e0=>?_) fun z2=>oA z2 fun _ e1=>?_
 ·refine oEA (Xl el) fun _ z0 e2=>?_;subst z0
  cases e2
  refine oEA (BG (FX es) O σv hi) fun O0 hi0 hg0=>?_
  exact X8 HC e0 hi0 (hq.on hg0)
 ·refine Or.elim (Wu e1) (fun z1=>oEA z1 fun es ed e0=>?_) fun z2=>oA z2 fun _ e1=>?_
  ·refine oEA (Xm ed) fun _ z0 e2=>?_;subst z0
   obtain rfl:=sI e2
   exact YN HC e0 hi hq
  ·refine oEA (BG (locs e) O σv hi) fun O0 hi0 hg0=>?_
   exact Y7 HC e1 hi0 (hq.on hg0)
theorem AAx {e:PE} (e1:doV V e σv g=some r) (hi:EI L0 O σv σ g st) (hq:Ca L0 O st Q r):X tx.toTx C (.expr e) σ st Q:=by
 obtain ⟨⟨v,g1⟩,e2,ea⟩:=AP e1
 obtain ⟨p,rfl,e3⟩:=J3 ea
 refine (AM HC e).1 _ _ _ e2 L0 O σ st _ hi fun q st1 hr hi1 hk=>?_
 cases hr
 have hq:=hq.on (hi.go hk)
 cases p with
 | none=>obtain rfl:=sI e3;exact ⟨.inl rfl,hq.now hi1⟩
 | int i=>obtain rfl:=sI e3;exact ⟨.inr rfl,hq.now hi1⟩
 | _=>exact nO e3
theorem Va {j:Nat} {k e:PE} (e1:Se V j k e σv g=some r) (hi:EI L0 O σv σ g st) (hq:Ca L0 O st Q r):X tx.toTx C (.store (.loc j) k e) σ st Q:=by
 obtain ⟨u,e2,ea⟩:=AP e1
 obtain ⟨v,e3,eb⟩:=AP ea
 obtain ⟨s,e4,ec⟩:=AP eb
 refine (AM HC e).1 _ _ _ e2 L0 O σ st _ hi fun p st1 B2 hi1 hk1=>?_
 cases s with
 | ownD l =>
  obtain ⟨y,eu,ed⟩:=Ez ec
  obtain ⟨x,ev,ef⟩:=Ez ed
  refine oA (EO ef) fun hl eg=>?_
  refine oEAEAAA (hi1.sr.at' _ _ (Bp e4)) fun b h1 j' z0 h3 h4 h5=>?_;subst z0
  refine ⟨_,h1,(AM HC k).1 _ _ _ e3 L0 O σ st1 _ hi1 fun q st2 El hi2 hk2=>?_⟩
  refine oEAEAAA (hi2.sr.at' _ _ (Bp e4)) fun b h1' j'' e' h3' h4' h5'=>?_
  subst e'
  obtain rfl:=PV.obj.inj (Option.some.inj (Option.some.inj (h1.symm.trans h1')))
  rw [eu] at B2;rw [ev] at El
  cases B2;cases El;obtain rfl:=sI eg
  refine .dict h5' (B9 _ _) ((Eu l).symm▸hl) ?_
  rw [GL]
  have:=hi2.upd (o:=.dict (encD (putD l x y))) (s':=.ownD (putD l x y)) (Bp e4) rfl h1 h3' h4' ⟨j',rfl,h3',h4',List.getElem?_set_self (gI h5').1⟩
  exact (hq.on (((hi.go hk1).trans (hi1.go hk2)).trans this.2)).now this.1
 | _=>exact nO ec
theorem Z9 {i:Nat} {a:PE} (e1:AAA V i a σv g=some r) (hi:EI L0 O σv σ g st) (hq:Ca L0 O st Q r):X tx.toTx C (.expr (.meth (.loc i) 0 [a])) σ st Q:=by
 obtain ⟨u,e2,ea⟩:=AP e1
 obtain ⟨s,e4,eb⟩:=AP ea
 cases s with
 | own l =>
  refine oA (EO eb) fun hl ec=>?_
  obtain rfl:=sI ec
  refine oEAEEAAAA (hi.sr.at' _ _ (Bp e4)) fun b h1 j ps z0 h3 h4 h5 h6=>?_;subst z0
  refine ⟨_,h1,.list h5 rfl ((AM HC a).1 _ _ _ e2 L0 O σ st _ hi fun p st1 B2 hi1 hk1=>?_)⟩
  refine oEAEEAAAA (hi1.sr.at' _ _ (Bp e4)) fun b h1' j' ps' e' h3' h4' h5' h6'=>?_
  subst e'
  obtain rfl:=PV.obj.inj (Option.some.inj (Option.some.inj (h1.symm.trans h1')))
  have:=hi1.upd (o:=.list (ps'++[p])) (s':=.own (l++[u.1])) (Bp e4) rfl h1 h3' h4' ⟨j,_,rfl,h3',h4',List.getElem?_set_self (gI h5').1,(h6'.keep (.set h3')).append (.cons (B2.keep (.set h3')) .nil)⟩
  exact .app h5' (h6'.length▸hl) ⟨.inl rfl,(hq.on ((hi.go hk1).trans this.2)).now this.1⟩
 | _=>exact nO eb
include HJ
theorem YB {i:Nat} (e1:W0 V i σv g=some r) (hi:EI L0 O σv σ g st) (hq:Ca L0 O st Q r):X tx.toTx C (.expr (.call (.gl 40) [.loc i])) σ st Q:=by
 obtain ⟨s,e4,eb⟩:=AP e1
 cases s with
 | ownD l =>
  refine oA (EO eb) fun hl ec=>?_
  obtain ⟨x,e2,ed⟩:=AP ec
  obtain rfl:=sI ed
  refine oEAEAAA (hi.sr.at' _ _ (Bp e4)) fun b h1 j z0 h3 h4 h5=>?_;subst z0
  have:=hi.upd (o:=.dict (encD (CT l))) (s':=.ownD (CT l)) (Bp e4) rfl h1 h3 h4 ⟨j,rfl,h3,h4,List.getElem?_set_self (gI h5).1⟩
  exact ⟨_,h1,.fn (HJ _ _ _ e2 j l st _ h5 hl ⟨.inl rfl,(hq.on this.2).now this.1⟩)⟩
 | _=>exact nO eb
theorem PG {e:PE} (e1:W8 V e σv g=some r) (hi:EI L0 O σv σ g st) (hq:Ca L0 O st Q r):X tx.toTx C (.expr e) σ st Q:=by
 refine Or.elim (Wu e1) (fun z1=>oEA z1 fun p ea e0=>?_) fun z2=>oA z2 fun _ e1=>?_
 ·refine oEEEA (Xk ea) fun o m as z0 eb=>?_;subst z0
  refine oA (EO eb) fun z0 ec=>?_;subst z0
  refine oEA (Ml ec) fun i z0 ed=>?_;subst z0
  refine oEA (DX ed) fun a z0 ef=>?_;subst z0
  obtain rfl:=sI ef
  refine oEA (BG (locs a) O σv hi) fun O0 hi0 hg0=>?_
  exact Z9 HC e0 hi0 (hq.on hg0)
 ·refine Or.elim (Wu e1) (fun z1=>oEA z1 fun i ej e0=>?_) fun z2=>oA z2 fun _ e1=>?_
  ·refine oEEA (Xo ej) fun f as z0 eb=>?_;subst z0
   refine oEA (AAe eb) fun k z0 ec=>?_;subst z0
   refine oA (EO ec) fun z0 ed=>?_;subst z0
   refine oEA (DX ed) fun a z0 ef=>?_;subst z0
   refine oEA (Ml ef) fun i' z0 eg=>?_;subst z0
   obtain rfl:=sI eg
   exact YB HC HJ e0 hi hq
  ·refine oEA (BG (locs e) O σv hi) fun O0 hi0 hg0=>?_
   exact AAx HC e1 hi0 (hq.on hg0)
end
end
end Mine.V
end
section
namespace Mine.V
open PySem
open scoped Classical
noncomputable section
section
variable {C:Ac} {V:VC} (HC:CS C V) (HJ:JS C V)
include HC HJ
mutual
theorem WT:∀ (p:PS),ABN C V p
 | .assign i e=>fun σv g r e1 L0 O σ st Q hi hq=>MG HC e1 hi hq
 | .assignT l e=>fun σv g r e1 L0 O σ st Q hi hq=>by
  obtain ⟨v,e2,ea⟩:=AP e1
  obtain ⟨σ',e3,rfl⟩:=BV ea
  refine oEA (BG (locs e) O σv hi) fun O0 hi0 hg0=>?_
  refine (AM HC e).1 _ _ _ e2 L0 O0 σ st _ hi0 fun p st1 hr hi1 hk=>?_
  refine oEA (Ew hi1.sr hr e3) fun σ2 e4 sr=>?_
  exact ⟨σ2,e4,(Ca.on hq (hg0.trans (hi0.go hk))).now (hi1.withSR sr)⟩
 | .assign2 i j a b=>fun σv g r e1 L0 O σ st Q hi hq=>by
  obtain ⟨u,e2,ea⟩:=AP e1
  obtain ⟨v,e3,e4⟩:=AP ea
  obtain rfl:=sI e4
  refine oEA (BG (locs a++locs b) O σv hi) fun O0 hi0 hg0=>?_
  exact (AM HC a).1 _ _ _ e2 L0 O0 σ st _ hi0 fun p st1 B2 hi1 hk1=>(AM HC b).1 _ _ _ e3 L0 O0 σ st1 _ hi1 fun q st2 El hi2 hk2 =>
   (Ca.on hq ((hg0.trans (hi0.go hk1)).trans (hi1.go hk2))).now (hi2.withSR ((hi2.sr.set El j).set (B2.keep (hi1.ko hk2)) i))
 | .store o k e=>fun σv g r e1 L0 O σ st Q hi hq=>by
  refine oEA (Ml e1) fun j z0 e2=>?_;subst z0
  refine oEA (BG (locs e++locs k) O σv hi) fun O0 hi0 hg0=>?_
  exact Va HC e2 hi0 (Ca.on hq hg0)
 | .setat o a e=>fun σv g r e1 L0 O σ st Q hi hq=>nO e1
 | .aug i op e=>fun σv g r e1 L0 O σ st Q hi hq=>by
  refine oEA (BG (locs e) O σv hi) fun O0 hi0 hg0=>?_
  obtain ⟨s,e2,ea⟩:=AP e1
  cases s with
  | val u =>
   obtain ⟨u,rfl,eb⟩:=Ez ea
   obtain ⟨v,e3,ec⟩:=AP eb
   obtain ⟨y,ey,ed⟩:=Ez ec
   obtain ⟨z,ez,rfl⟩:=BV ed
   refine oEA (hi0.sr.at' _ _ (Bp e2)) fun p h1 h2=>?_
   cases h2
   refine ⟨u,h1,(AM HC e).1 _ _ _ e3 L0 O0 σ st _ hi0 fun p st1 B2 hi1 hk1=>?_⟩
   rw [ey] at B2
   exact ⟨y,z,B2,ez,(Ca.on hq (hg0.trans (hi0.go hk1))).now (hi1.withSR (hi1.sr.set (v:=.imm (.int z)) (p:=.int z) (rfl:PV.int z=.int z) i))⟩
  | _=>exact nO ea
 | .ret e=>fun σv g r e1 L0 O σ st Q hi hq=>by
  obtain ⟨v,e2,rfl⟩:=BV e1
  refine oEA (BG (locs e) O σv hi) fun O0 hi0 hg0=>?_
  exact (AM HC e).1 _ _ _ e2 L0 O0 σ st _ hi0 fun p st1 B2 hi1 hk1=>hq _ O0 _ _ B2 hi1 (hg0.trans (hi0.go hk1))
 | .expr e=>fun σv g r e1 L0 O σ st Q hi hq=>PG HC HJ e1 hi hq
 | .ite c t f=>fun σv g r e1 L0 O σ st Q hi hq=>by
  obtain ⟨⟨b,g1⟩,e2,e3⟩:=AP e1
  refine oEA (BG (locs c) O σv hi) fun O0 hi0 hg0=>?_
  refine (AM HC c).2 _ _ _ e2 L0 O0 σ st _ hi0 fun st1 hi1 hk1=>?_
  have hq:=Ca.on hq (hg0.trans (hi0.go hk1))
  cases b with
  | true=>exact C1 t _ _ _ e3 L0 O0 σ st1 Q hi1 hq
  | false=>exact C1 f _ _ _ e3 L0 O0 σ st1 Q hi1 hq
 | .loop t it body=>fun σv g r e1 L0 O σ st Q hi hq=>by
  obtain ⟨v,e2,ea⟩:=AP e1
  obtain ⟨its,e3,e4⟩:=AP ea
  refine oEA (BG (locs it) O σv hi) fun O0 hi0 hg0=>?_
  refine (AM HC it).1 _ _ _ e2 L0 O0 σ st _ hi0 fun p st1 B2 hi1 hk1=>?_
  refine oEAA (Gh e3 B2) fun rs h1 h2 h3=>?_
  exact ⟨rs,h1,M8 (C1 body) its _ _ r e4 O0 σ st1 rs Q h2 hi1 h3 (Ca.on hq (hg0.trans (hi0.go hk1)))⟩
 | .whl c body=>fun σv g r e1 L0 O σ st Q hi hq=>M7 (AM HC c).2 (C1 body) 64 _ _ r e1 O σ st Q hi hq
 | .stuck=>fun σv g r e1 L0 O σ st Q hi hq=>nO e1
theorem C1:∀ (ps:List PS),Us C V ps
 | []=>fun σv g r e1 L0 O σ st Q hi hq=>by obtain rfl:=sI e1;exact Ca.now hq hi
 | p::ps=>fun σv g r e1 L0 O σ st Q hi hq=>by
  obtain ⟨⟨b,σ1,g1⟩,e2,e3⟩:=AP e1
  refine WT p _ _ _ e2 L0 O σ st _ hi fun fl O1 σ1 st1 hf hi1 hg1=>?_
  cases b with
  | next =>
   rw [hf.next]
   exact C1 ps _ _ _ e3 L0 O1 σ1 st1 Q hi1 (Ca.on hq hg1)
  | ret w =>
   refine oEA (hf.ret) fun p z0 hp=>?_;subst z0
   obtain rfl:=sI e3
   exact hq _ _ _ _ hp hi1 hg1
end
end
end
end Mine.V
end
section
namespace Mine.V
open PySem
open scoped Classical
noncomputable section
theorem CF {l:List PV} (nd:l.Nodup) {r:PV} {i:Nat} (h:l[i]?=some r):l.findIdx (fun x=>decide (x=r))=i:=by
 induction l generalizing i with
 | nil=>simp at h
 | cons a l ih =>
  rw [List.findIdx_cons]
  cases i with
  | zero=>rw [decide_eq_true (Option.some.inj h)];rfl
  | succ i =>
   have h':l[i]?=some r:=h
   rw [show decide (a=r)=false from decide_eq_false fun e=>(List.nodup_cons.mp nd).1 (e▸List.mem_of_getElem? h'),ih (List.nodup_cons.mp nd).2 h'];rfl
theorem AV {st:St} {i k:Nat} {o x:PO} (h:st[k]?=some x) (hne:i≠k):(st.set i o)[k]?=some x:=(List.getElem?_set_ne hne).trans h
theorem TS.put {rows:List PV} {st:St} (H:TS rows st) {r:PV} (h1:r.isTup=true) (h2:r.plain=true) (hm:r∉rows) (hl:rows.length<50000) :
  TS (rows++[r]) ((st.set 5 (.list (rows++[r]))).set 6 (.dict (idxOf (rows++[r])))):=by
 have l6:6<st.length:=(gI H.idx).1
 exact ⟨AV (AV H.inst (by decide)) (by decide),AV (AV H.attrs (by decide)) (by decide),AV (List.getElem?_set_self (Nat.lt_of_succ_lt l6)) (by decide),List.getElem?_set_self (by rw [List.length_set];exact l6),
  List.nodup_append.mpr ⟨H.nd,List.nodup_cons.mpr ⟨fun q=>(nL q),List.nodup_nil⟩,fun a ha b hb e=>hm (List.mem_singleton.mp hb▸e▸ha)⟩,
  fun x hx=>(mA hx).elim (H.tup x) fun q=>List.mem_singleton.mp q▸⟨h1,h2⟩,by rw [List.length_append];exact hl⟩
noncomputable abbrev U0 (O:List Nat) (st:St) (Q:PV→St→Prop) (r:VV×G):Prop:=∀ p st',Rel O st' r.1 p→GS r.2 st'→Ar B st st'→Q p st'
theorem KL {n:Nat} {p:PV} {g:G} {r:VV×G} (e:Br g p=some r) {O:List Nat} {st:St} {Q:PV→St→Prop} (gs:GS g st) (hq:U0 O st Q r):Call tx (n+1) (.fn 1) [.obj 4,p] st Q:=by
 refine oA (EO e) fun hc e1=>?_
 by_cases hm:p∈g.rows
 ·rw [if_pos hm] at e1
  obtain rfl:=sI e1
  refine Ja gs.ts hc.1 hc.2.1 (fun i hi=>?_) (fun hn=>absurd hm hn)
  rw [CF gs.ts.nd hi] at hq
  exact hq _ _ H8 gs .refl
 ·rw [if_neg hm] at e1
  obtain rfl:=sI e1
  have far:∀ {k:Nat} {x:PO},k≠5→k≠6→st[k]?=some x→((st.set 5 (.list (g.rows++[p]))).set 6 (.dict (idxOf (g.rows++[p]))))[k]?=some x:=fun h5 h6 h=>AV (AV h (Ne.symm h5)) (Ne.symm h6)
  exact Ja gs.ts hc.1 hc.2.1 (fun i hi=>absurd (List.mem_of_getElem? hi) hm) fun hn=>hq (.int g.rows.length) _ H8
   ⟨gs.ts.put hc.1 hc.2.1 hn hc.2.2,far (by decide) (by decide) gs.d,far (by decide) (by decide) gs.s,gs.p8.imp fun l h=>⟨far (by decide) (by decide) h.1,h.2⟩,gs.p9.imp fun l h=>⟨far (by decide) (by decide) h.1,h.2⟩,gs.p10.imp fun l h=>⟨far (by decide) (by decide) h.1,h.2⟩⟩ ((Ar.set (by decide)).trans' (.set (by decide)))
theorem OE {n:Nat} {k:Int} {g:G} {r:VV×G} (e:Wj g k=some r) {O:List Nat} {st:St} {Q:PV→St→Prop} (gs:GS g st) (hq:U0 O st Q r):Call tx (n+1) (.fn 55) [.obj 2,.int k] st Q:=by
 refine oA (EO e) fun hc e1=>?_
 obtain rfl:=sI e1
 have l2:2<st.length:=(gI gs.d).1
 have far:∀ {k:Nat} {x:PO},k≠2→st[k]?=some x→(st.set 2 (.list [.int (g.pos+1:Nat),.obj 1]))[k]?=some x:=fun h2 h=>AV h (Ne.symm h2)
 have hgs:GS { g with pos:=g.pos+1 } (st.set 2 (.list [.int (g.pos+1:Nat),.obj 1])) :=
  ⟨⟨far (by decide) gs.ts.inst,far (by decide) gs.ts.attrs,far (by decide) gs.ts.rws,far (by decide) gs.ts.idx,gs.ts.nd,gs.ts.tup,gs.ts.len⟩,List.getElem?_set_self l2,far (by decide) gs.s,gs.p8.imp fun l h=>⟨far (by decide) h.1,h.2⟩,gs.p9.imp fun l h=>⟨far (by decide) h.1,h.2⟩,gs.p10.imp fun l h=>⟨far (by decide) h.1,h.2⟩⟩
 have hq':=hq (.int ((match g.scr[g.pos]? with | some x=>x | none=>(g.pos:Int)).fmod k)) _ H8 hgs (.set (by decide))
 have hlen:(g.scr.map PV.int).length≤100000:=by rw [List.length_map];exact hc.2
 have two:([PV.int (g.pos+1:Nat),.obj 1]).length≤100000:=Nat.le_of_ble_eq_true rfl
 have hk:∀ x:Int,intOp .Mod x k=some (x.fmod k):=fun x=>if_pos (Int.ne_of_gt hc.1)
 refine EC (f:=D4) rfl (Nat.le_of_ble_eq_true rfl) (Nat.le_of_ble_eq_true rfl) ?_
 refine An (EU (w_sub (Am rfl (EF ⟨.int g.pos,.list gs.d (.pos two (Int.le_refl 0) rfl),?_⟩))))
 refine An (H4 (Wf (Am rfl (EF (.int rfl (Am rfl (EF (.list gs.d (Int.le_refl 0) (by show (0:Int)<2;decide) two ?_))))))))
 show Nx n _ _ (st.set 2 (.list [.int (g.pos+1:Nat),.obj 1])) _
 refine An (Ph (Wf (w_ite (H6 rfl (R4 (Am rfl (Kw (IQ rfl (Ba (w_sub (Am rfl (EF ⟨.obj 1,.list hgs.d (.pos two (by decide) rfl),Bc (.bi (.lenL hgs.s hlen ⟨_,.lt _ _,_,.bool _,?_⟩))⟩))))))))))))
 cases eg:g.scr[g.pos]? with
 | none =>
  rw [eg] at hq'
  have hlen:=List.getElem?_eq_none_iff.mp eg
  rw [decide_eq_false (by rw [List.length_map];show ¬((g.pos:Int)<(g.scr.length:Int));omega)]
  exact Am rfl (Am rfl (.int (hk _) hq'))
 | some x =>
  rw [eg] at hq'
  have hlt:=(gI eg).1
  rw [decide_eq_true (by rw [List.length_map];show (g.pos:Int)<(g.scr.length:Int);omega)]
  exact w_sub (w_sub (Am rfl (EF ⟨.obj 1,.list hgs.d (.pos two (by decide) rfl),Am rfl ⟨.int x,.list hgs.s (.pos hlen (Int.natCast_nonneg _) (by rw [List.getElem?_map];show Option.map _ g.scr[g.pos]?=_;rw [eg];rfl)),Am rfl (.int (hk _) hq')⟩⟩)))
theorem GS.setP {g:G} {st:St} (h:GS g st) {a b c:List PV} (ha:a.length=g.np+1) (hb:b.length=g.np+1) (hc:c.length=g.np+1):GS { g with np:=g.np+1 } (((st.set 8 (.list a)).set 9 (.list b)).set 10 (.list c)):=by
 refine oEA (h.p8) fun _ h8 _=>?_
 refine oEA (h.p9) fun _ h9 _=>?_
 refine oEA (h.p10) fun _ h10 _=>?_
 have l8:=(gI h8).1
 have l9:=(gI h9).1
 have l10:=(gI h10).1
 have k:∀ {i o},8≠i→9≠i→10≠i→st[i]?=some o→(((st.set 8 (.list a)).set 9 (.list b)).set 10 (.list c))[i]?=some o:=fun h1 h2 h3 e=>AV (AV (AV e h1) h2) h3
 exact ⟨⟨k (by decide) (by decide) (by decide) h.ts.inst,k (by decide) (by decide) (by decide) h.ts.attrs,k (by decide) (by decide) (by decide) h.ts.rws,k (by decide) (by decide) (by decide) h.ts.idx,h.ts.nd,h.ts.tup,h.ts.len⟩,k (by decide) (by decide) (by decide) h.d,k (by decide) (by decide) (by decide) h.s,
  ⟨a,AV (AV (List.getElem?_set_self l8) (by decide)) (by decide),ha⟩,⟨b,AV (List.getElem?_set_self (by rw [List.length_set];exact l9)) (by decide),hb⟩,⟨c,List.getElem?_set_self (by rw [List.length_set,List.length_set];exact l10),hc⟩⟩
theorem Mp {n:Nat} {b:PV} {g:G} {r:VV×G} (hnp:g.np≤1000) (e:Br { g with np:=g.np+1 } (.tup [.int 10,.int g.np])=some r) {O:List Nat} {st:St} {Q:PV→St→Prop} (gs:GS g st) (hq:U0 O st Q r):Call tx (n+2) (.fn 12) [.obj 4,b] st Q:=by
 refine oEA (gs.p8) fun a8 h8 n8=>?_
 refine oEA (gs.p9) fun a9 h9 n9=>?_
 refine oEA (gs.p10) fun a10 h10 n10=>?_
 have len:∀ {l:List PV},l.length=g.np→l.length≤100000:=fun h=>h▸Nat.le_trans hnp (by decide)
 have Cp:∀ {l:List PV} {x:PV},l.length=g.np→(l++[x]).length=g.np+1:=fun h=>List.length_append.trans (congrArg (·+1) h)
 have gs':=gs.setP (a:=a8++[.int (-1)]) (b:=a9++[.int (-1)]) (c:=a10++[b]) (Cp n8) (Cp n9) (Cp n10)
 have app:∀ {st:St} {a k:Nat} {l:List PV} {e:PE} {v:PV} {rest:List PS} {σ:Lo} {R:Fl→Lo→St→Prop},st[4]?=some (.inst 0 3)→st[3]?=some (.attrs tat)→KY tat a=some (.obj k)→tx.toTx.ats 0 a=true→σ[0]?=some (some (.obj 4))→(∀ {P:PV→St→Prop},P v st→Wn (n+1) e σ st P)→st[k]?=some (.list l)→l.length=g.np→Nx (n+1) rest σ (st.set k (.list (l++[v]))) R →
   Nx (n+1) (.expr (.meth (.attr (.loc 0) a) 0 [e])::rest) σ st R:=fun h1 h2 h3 h4 h5 h6 h7 h8 q=>An (N4 (Ku (IR (Am h5 (.mk h1 h2 h3 h4 (.list h7 rfl (Ba (h6 (Bc (.app h7 (len h8) ⟨.inl rfl,q⟩))))))))))
 refine EC (f:=BB) rfl (Nat.le_of_ble_eq_true rfl) (Nat.le_of_ble_eq_true rfl) ?_
 refine An (EU (Kw (IQ rfl (Ba (IR (Am rfl (.mk gs.ts.inst gs.ts.attrs rfl rfl (Bc (.bi (.lenL h8 (len n8) ?_))))))))))
 refine app gs.ts.inst gs.ts.attrs rfl rfl rfl (fun q=>Am rfl q) h8 n8 ?_
 refine app (AV gs.ts.inst (by decide)) (AV gs.ts.attrs (by decide)) rfl rfl rfl (fun q=>Am rfl q) (AV h9 (by decide)) n9 ?_
 refine app (AV (AV gs.ts.inst (by decide)) (by decide)) (AV (AV gs.ts.attrs (by decide)) (by decide)) rfl rfl rfl (fun q=>Am rfl q) (AV (AV h10 (by decide)) (by decide)) n10 ?_
 refine An (Ph (Ku (Am rfl (.inst gs'.ts.inst rfl gs'.ts.attrs rfl ?_))))
 refine Ba (Yn (Ba (IQ rfl (Ba (Am rfl (Bc (Bc ?_)))))))
 rw [n8]
 exact KL e gs' fun p st' h1 h2 h3=>hq p st' h1 h2 ((((Ar.set (by decide)).trans' (.set (by decide))).trans' (.set (by decide))).trans' h3)
theorem DT {n:Nat} {σ:Lo} {b:St} {l:List (Nat×PV)} {a:Nat} {e:PE} {v:PV} {r:List PS} {Q:Fl→Lo→St→Prop} (he:∀ st Q,Q v st→Wn n e σ st Q) (h0:σ[0]?=some (some (.obj (b.length+1)))) (ha:tx.toTx.ats 1 a=true) (hl:l.length≤100)
  (q:Nx n r σ (b++[.attrs (LI l a v),.inst 1 b.length]) Q):Nx n (.setat (.loc 0) a e::r) σ (b++[.attrs l,.inst 1 b.length]) Q:=by
 have i1:(b++[PO.attrs l,.inst 1 b.length])[b.length+1]?=some (.inst 1 b.length):=by rw [List.getElem?_append_right (Nat.le_succ _),Nat.succ_sub (Nat.le_refl _),Nat.sub_self];rfl
 have i0:(b++[PO.attrs l,.inst 1 b.length])[b.length]?=some (.attrs l):=by rw [List.getElem?_append_right (Nat.le_refl _),Nat.sub_self];rfl
 refine An (Pg (he _ _ (Am h0 (.mk i1 i0 ha hl ?_))))
 have:(b++[PO.attrs l,.inst 1 b.length]).set b.length (.attrs (LI l a v))=b++[.attrs (LI l a v),.inst 1 b.length]:=by rw [List.set_append_right _ _ (Nat.le_refl _),Nat.sub_self];rfl
 show Nx n r _ (List.set _ _ _) Q
 rw [this];exact q
theorem Rj {n:Nat} {st:St} {Q:PV→St→Prop} (q:Q (.obj (st.length+1)) (st++[.attrs Ov,.inst 1 st.length])):Call tx (n+2) (.cls 1) [.obj 4] st Q:=by
 refine Kt.cls (i:=2) rfl (EC (f:=Gs) rfl (Nat.le_of_ble_eq_true rfl) (Nat.le_of_ble_eq_true rfl) ?_)
 refine DT (v:=.obj 4) (fun _ _ q=>Am rfl q) rfl rfl (by decide) ?_
 refine DT (v:=.int 0) (fun _ _ q=>EF q) rfl rfl (by decide) ?_
 refine DT (v:=.int 200) (fun _ _ q=>IQ rfl q) rfl rfl (by decide) ?_
 refine DT (v:=.int 40) (fun _ _ q=>IQ rfl q) rfl rfl (by decide) ?_
 refine DT (v:=.none) (fun _ _ q=>R0 q) rfl rfl (by decide) ?_
 exact Rx ⟨rfl,q⟩
section
variable {n:Nat} {σ:Lo} {st:St}
noncomputable abbrev Tells (n:Nat) (σ:Lo) (st:St) (e:PE) (p:Prop) [Decidable p]:Prop:=∀ Q:Bool→St→Prop,Q (decide p) st→Tn n e σ st Q
theorem VW {k:Nat} {i:Int} {j:Nat} {l:List (Int×Int)} (hk:Ra[k]?=some (.int i)) (h0:σ[0]?=some (some (.obj j))) (hj:st[j]?=some (.dict (encD l))):Tells n σ st (.cmp .In (.gl k) (.loc 0)) (i∈l.map (·.1)):=fun Q q=>by
 refine H6 rfl (R4 (IQ hk (Am h0 ⟨_,.isin (.dict hj (B9 _ _)),_,.bool _,?_⟩)))
 rw [show decide (PV.int i∈(encD l).map (·.1))=decide (i∈l.map (·.1)) from decide_eq_decide.mpr (by rw [FK];exact mem_map_int)]
 exact q
theorem Wk {a b:PE} {p q:Prop} [Decidable p] [Decidable q] (h1:Tells n σ st a p) (h2:Tells n σ st b q):Tells n σ st (.bop .Or [a,b]) (p∨q):=fun Q k=>h1 _ ⟨fun hb=>by
  have hp:=of_decide_eq_true hb
  rw [decide_eq_true (Or.inl hp:p∨q)] at k;rw [hb];exact k,fun hb=>h2 _ ⟨fun hc=>by
  rw [decide_eq_true (Or.inr (of_decide_eq_true hc):p∨q)] at k;rw [hc];exact k,fun hc=>by
  rw [decide_eq_false (fun h=>h.elim (of_decide_eq_false hb) (of_decide_eq_false hc):¬(p∨q))] at k;exact k⟩⟩
theorem Xg {a b:PE} {p q:Prop} [Decidable p] [Decidable q] (h1:Tells n σ st a p) (h2:Tells n σ st b q):Tells n σ st (.bop .And [a,b]) (p∧q):=fun Q k=>h1 _ ⟨fun hb=>by
  rw [decide_eq_false (fun h=>of_decide_eq_false hb h.1:¬(p∧q))] at k;rw [hb];exact k,fun hb=>h2 _ ⟨fun hc=>by
  rw [decide_eq_false (fun h=>of_decide_eq_false hc h.2:¬(p∧q))] at k;rw [hc];exact k,fun hc=>by
  rw [decide_eq_true (⟨of_decide_eq_true hb,of_decide_eq_true hc⟩:p∧q)] at k;exact k⟩⟩
end
theorem Vu (l:List (Int×Int)) (k v:Int):(putD l k v).length≤l.length+1:=by
 unfold putD
 split
 ·rw [List.length_map];exact Nat.le_succ _
 ·exact Nat.le_of_eq List.length_append
theorem Rk {n:Nat} {j:Nat} {l:List (Int×Int)} {st:St} {Q:PV→St→Prop} (hj:st[j]?=some (.dict (encD l))) (hl:l.length≤1000) (q:Q .none (st.set j (.dict (encD (CT l))))):Call tx (n+1) (.fn 16) [.obj j] st Q:=by
 refine EC (f:=CY) rfl (Nat.le_of_ble_eq_true rfl) (Nat.le_of_ble_eq_true rfl) ?_
 have lj:=(gI hj).1
 refine An (We (Xg (Wk (VW (i:=8) rfl rfl hj) (VW (i:=14) rfl rfl hj)) (Wk (VW (i:=9) rfl rfl hj) (VW (i:=15) rfl rfl hj)) _ ?_))
 unfold CT at q
 by_cases h:(8∈l.map (·.1)∨14∈l.map (·.1))∧(9∈l.map (·.1)∨15∈l.map (·.1))
 ·rw [if_pos h] at q
  rw [decide_eq_true h]
  have h2:(st.set j (.dict (encD (putD l 8 1))))[j]?=some (.dict (encD (putD l 8 1))):=List.getElem?_set_self lj
  have l1:=Vu l 8 1
  refine An (H4 (EF (Am rfl (IQ rfl (.dict hj (B9 _ _) (by rw [Eu];omega) ?_)))))
  rw [GL]
  refine An (H4 (EF (Am rfl (IQ rfl (.dict h2 (B9 _ _) (by rw [Eu];omega) ?_)))))
  rw [GL,List.set_set]
  exact q
 ·rw [if_neg h] at q
  rw [decide_eq_false h]
  have:st.set j (.dict (encD l))=st:=List.ext_getElem? fun k=>by
   by_cases hk:j=k
   ·subst hk;rw [List.getElem?_set_self lj,hj]
   ·rw [List.getElem?_set_ne hk]
  rw [this] at q
  exact q
theorem MX {f:Fn} {vs:List VV} {ps:List PV} {O:List Nat} {st:St} {σv:VL} (e:IX f vs=some σv) (hr:AT O st vs ps):(ps.length≤f.np∧f.np≤ps.length+f.dflt.length)∧SR st.length O σv (f.start ps) st:=by
 refine oA (EO e) fun hc e1=>?_
 have hl:=hr.length
 rw [hl] at hc e1
 obtain rfl:=sI e1
 refine ⟨hc,?_⟩
 have El:=hr.append (AT.imm (O:=O) (st:=st) (f.dflt.drop (f.dflt.length-(f.np-ps.length))))
 unfold Fn.start
 generalize vs++(f.dflt.drop (f.dflt.length-(f.np-ps.length))).map VV.imm=ws at El
 generalize ps++f.dflt.drop (f.dflt.length-(f.np-ps.length))=qs at El
 have noown:∀ (i:Nat) (s:VS),(List.map (fun v=>some (VS.val v)) ws++List.replicate (f.slots-f.np) none)[i]?=some (some s)→∃ v,s=.val v∧ws[i]?=some v:=by
  intro i s h
  by_cases hi:i<(List.map (fun v=>some (VS.val v)) ws).length
  ·rw [List.getElem?_append_left hi,List.getElem?_map] at h
   refine oEA (oM h) fun v hx h2=>?_
   exact ⟨v,(Option.some.inj h2).symm,hx⟩
  ·rw [List.getElem?_append_right (Nat.not_lt.mp hi)] at h
   exact nomatch (List.mem_replicate.mp (List.mem_of_getElem? h)).2
 refine ⟨by rw [List.length_append,List.length_append,List.length_map,List.length_map,List.length_replicate,List.length_replicate,El.length],fun i s h=>?_,fun i k s s' p hik h1 h2 o1 o2=>?_⟩
 ·refine oEA (noown i s h) fun v z0 hv=>?_;subst z0
  refine oEA (El.get hv) fun p hp hrel=>?_
  refine ⟨p,?_,hrel⟩
  rw [List.getElem?_append_left (by rw [List.length_map];exact (gI hp).1),List.getElem?_map,hp];rfl
 ·refine oEA (noown i s h1) fun v z0 _=>?_;subst z0
  exact nB o1
theorem PX {n:Nat} {i:Nat} (HC:CS (Call tx n) (AA n)) (HJ:JS (Call tx n) (AA n)) {vs:List VV} {g:G} {r:VV×G}
  (e:((QP[i]?).bind fun f=>(IX f vs).bind fun σ=>(Bv (AA n) f.body σ g).bind YL)=some r) {O:List Nat} {st:St} {ps:List PV} {Q:PV→St→Prop} (hb:∀ i∈B,i∈O) (hlt:∀ o∈O,o<st.length) (h7:13≤st.length) (hr:AT O st vs ps) (gs:GS g st)
  (hq:U0 O st Q r):Call tx (n+1) (.fn i) ps st Q:=by
 obtain ⟨f,e1,ea⟩:=AP e
 obtain ⟨σv,e2,eb⟩:=AP ea
 obtain ⟨⟨x,σ1,g1⟩,e3,e4⟩:=AP eb
 refine oA (MX e2 hr) fun hc sr=>?_
 refine EC e1 hc.1 hc.2 (C1 HC HJ f.body _ _ _ e3 st.length O _ st _ ⟨sr,gs,hb,hlt,Nat.le_refl _,h7⟩ fun fl O' σ' st' hf hi hg=>?_)
 have hk:Ar B st st':=⟨hg.keep.len,fun k o hk ek=>hg.low k o (gI ek).1 hk ek⟩
 cases x with
 | ret v =>
  refine oEA (hf.ret) fun p z0 hp=>?_;subst z0
  obtain rfl:=sI e4
  exact hq _ _ (Rel.anti hp fun o ho=>hg.stay o ho (hlt o ho)) hi.gs hk
 | next =>
  rw [hf.next]
  obtain rfl:=sI e4
  exact hq .none _ H8 hi.gs hk
theorem Pa {α:Type} {v:VV} {k:Option α} {r:α} (e:Qf v k=some r):v=.tab∧k=some r:=by
 cases v with
 | tab=>exact ⟨rfl,e⟩
 | _=>exact nO e
theorem Z7 {α:Type} {v:VV} {k:Option α} {r:α} (e:Z8 v k=some r):v=.dd∧k=some r:=by
 cases v with
 | dd=>exact ⟨rfl,e⟩
 | _=>exact nO e
theorem TQ {n i:Nat} (hi:i=1∨i=55∨i=12) {vs:List VV} {g:G} {r:VV×G} (e:Xw n i vs g=some r) {O:List Nat} {st:St} {ps:List PV} {Q:PV→St→Prop} (hr:AT O st vs ps) (gs:GS g st) (hq:U0 O st Q r):Call tx (n+1) (.fn i) ps st Q:=by
 rcases hi with rfl | rfl | rfl
 ·refine oEEA (Pt (show MR vs _=some r from e)) fun a b z0 ea=>?_;subst z0
  refine oA (Pa ea) fun z0 eb=>?_;subst z0
  obtain ⟨p,rfl,ec⟩:=J3 eb
  refine oEEAA (hr.two) fun _ _ z0 h1 h2=>?_;subst z0
  cases h1;cases h2
  exact KL ec gs hq
 ·refine oEEA (Pt (show MR vs _=some r from e)) fun a b z0 ea=>?_;subst z0
  refine oA (Z7 ea) fun z0 eb=>?_;subst z0
  obtain ⟨p,rfl,ec⟩:=Ez eb
  refine oEEAA (hr.two) fun _ _ z0 h1 h2=>?_;subst z0
  cases h1;cases h2
  exact OE ec gs hq
 ·refine oEEA (Pt (show MR vs _=some r from e)) fun a b z0 ea=>?_;subst z0
  refine oA (Pa ea) fun z0 eb=>?_;subst z0
  obtain ⟨p,rfl,ec⟩:=J3 eb
  refine oA (EO ec) fun hc ed=>?_
  refine oEEAA (hr.two) fun _ _ z0 h1 h2=>?_;subst z0
  cases h1;cases h2
  cases n with
  | zero=>exact absurd rfl hc.1
  | succ n=>exact Mp hc.2 ed gs hq
theorem WU (n:Nat):CS (Call tx n) (AA n)∧JS (Call tx n) (AA n):=by
 induction n with
 | zero=>exact ⟨fun f vs g r e=>(nO e),fun vs g r e=>(nO e)⟩
 | succ n ih =>
  refine ⟨fun h vs g r e O st ps Q hb hlt h7 hr gs hq=>?_,fun vs g r e j l st Q hj hl q=>Rk hj hl q⟩
  cases h with
  | fn i =>
   have e:(if i=1∨i=55∨i=12 then Xw n i vs g else (QP[i]?).bind fun f=>(IX f vs).bind fun σ=>(Bv (AA n) f.body σ g).bind YL)=some r:=e
   by_cases hi:i=1∨i=55∨i=12
   ·rw [if_pos hi] at e;exact TQ hi e hr gs hq
   ·rw [if_neg hi] at e;exact PX ih.1 ih.2 e hb hlt h7 hr gs hq
  | cls c =>
   refine oA (EO (show (if c=1∧n≠0 then _ else none)=some r from e)) fun hc e1=>?_
   refine oEA (DX e1) fun a z0 e2=>?_;subst z0
   refine oA (Pa e2) fun z0 e3=>?_;subst z0
   obtain rfl:=sI e3
   obtain ⟨rfl,hn⟩:=hc
   refine oEEAA (hr.uncons) fun p q z0 h1 h2=>?_;subst z0
   cases h1
   rw [h2.unnil]
   cases n with
   | zero=>exact absurd rfl hn
   | succ n =>
    have i1:(st++[PO.attrs Ov,.inst 1 st.length])[st.length+1]?=some (.inst 1 st.length):=by rw [List.getElem?_append_right (Nat.le_succ _),Nat.succ_sub (Nat.le_refl _),Nat.sub_self];rfl
    have i0:(st++[PO.attrs Ov,.inst 1 st.length])[st.length]?=some (.attrs Ov):=by rw [List.getElem?_append_right (Nat.le_refl _),Nat.sub_self];rfl
    exact Rj (hq _ _ (Ie (fun hm=>Nat.lt_irrefl _ (Nat.lt_of_succ_lt (hlt _ hm))) (fun hm=>Nat.lt_irrefl _ (hlt _ hm)) i1 i0) gs.app .app)
  | _=>exact nO e
end
end Mine.V
end
section
namespace Mine.V
open PySem
open scoped Classical
noncomputable section
noncomputable def Au:List PV:=match Ra.getD 0 PV.none with
 | PV.tup l=>l
 | _=>[]
noncomputable def Zo:PV→List Int
 | .int i=>[i]
 | .str s=>s.cps.toList.map Int.ofNat
 | .tup l=>[l.length]
 | _=>[]
noncomputable def code:PV→List Int
 | .tup l=>(l.map Zo).flatten
 | _=>[]
theorem L8:Au.Nodup:=by
 have:(Au.map code).Nodup:=by decide +kernel
 exact List.Pairwise.imp (fun h e=>h (congrArg code e)) (List.pairwise_map.mp this)
theorem Rn:∀ r∈Au,r.isTup=true∧r.plain=true:=by
 have:Au.all (fun r=>r.isTup&&r.plain)=true:=by decide +kernel
 exact fun r hr=>Bool.and_eq_true_iff.mp (List.all_eq_true.mp this r hr)
theorem PF {n:Nat} {v:List PV} {its:List PV} (todo:List PV):∀ (done:List PV) (σ:Lo) (st:St) (Q:Fl→Lo→St→Prop),2≤σ.length→σ[0]?=some (some (.obj 4))→(done++todo).Nodup→(∀ r∈todo,r.isTup=true∧r.plain=true)→(done++todo).length≤100→TS done st →
  (∀ st' σ',TS (done++todo) st'→(∀ i o,i≠5→i≠6→st[i]?=some o→st'[i]?=some o)→st'.length=st.length→Q .next σ' st')→KW (Nx (n+1) [.expr (.meth (.loc 0) 2 [.loc 1])]) (.one 1) (.tup v) its todo σ st Q:=by
 induction todo with
 | nil =>
  intro done σ st Q _ _ _ _ _ hts hq
  exact hq st σ ((List.append_nil done).symm▸hts) (fun _ _ _ _ h=>h) rfl
 | cons r todo ih =>
  intro done σ st Q hl h0 nd hp hle hts hq
  have hr:=hp r (.head _)
  have hn:r∉done:=fun hm=>(List.nodup_append.mp nd).2.2 r hm r (.head _) rfl
  have e1:done++r::todo=done++[r]++todo:=by rw [List.append_assoc];rfl
  have hlen:done.length<50000:=Nat.lt_of_le_of_lt (Nat.le_trans (by rw [List.length_append];exact Nat.le_add_right _ _) hle) (by decide)
  rw [e1] at nd hle hq
  have h0':(σ.set 1 (some r))[0]?=some (some (.obj 4)):=(List.getElem?_set_ne (by decide)).trans h0
  refine ⟨_,.one 1 r,An (N4 (Ku (Am h0' (.inst hts.inst rfl hts.attrs rfl (Ba (Am (List.getElem?_set_self hl) (Bc ?_)))))))⟩
  refine Ja hts hr.1 hr.2 (fun i hi=>absurd (List.mem_of_getElem? hi) hn) fun _=>⟨.inr rfl,?_⟩
  refine And.intro trivial ?_
  refine ih (done++[r]) _ _ Q (by rw [List.length_set];exact hl) h0' nd (fun x hx=>hp x (.tail _ hx)) hle (hts.put hr.1 hr.2 hn hlen) fun st' σ' h1 h2 h3=>?_
  exact hq st' σ' h1 (fun i o h5 h6 e=>h2 i o h5 h6 (AV (AV e (Ne.symm h5)) (Ne.symm h6))) (h3.trans (List.length_set.trans List.length_set))
theorem BU {n:Nat} {σ:Lo} {a b c:PO} {x x':St} {l:List (Nat×PV)} {k:Nat} {e:PE} {v:PV} {r:List PS} {Q:Fl→Lo→St→Prop} (he:∀ Q:PV→St→Prop,Q v ([a,b,c,.attrs l,.inst 0 3]++x')→Wn n e σ ([a,b,c,.attrs l,.inst 0 3]++x) Q) (h0:σ[0]?=some (some (.obj 4))) (ha:tx.toTx.ats 0 k=true) (hl:l.length≤100)
  (q:Nx n r σ ([a,b,c,.attrs (LI l k v),.inst 0 3]++x') Q):Nx n (.setat (.loc 0) k e::r) σ ([a,b,c,.attrs l,.inst 0 3]++x) Q:=An (Pg (he _ (Am h0 (.mk (l:=l) rfl rfl ha hl q))))
theorem PQ {n:Nat} {a b c:PO} {Q:PV→St→Prop} (q:∀ st,TS Au st→st[1]?=some b→st[2]?=some c→(∀ i,8≤i→i≤10→st[i]?=some (.list []))→13≤st.length→Q (.obj 4) st):Call tx (n+3) (.cls 0) [] [a,b,c] Q:=by
 refine Kt.cls (i:=0) rfl (EC (f:=Gr) rfl (Nat.le_of_ble_eq_true rfl) (Nat.le_of_ble_eq_true rfl) ?_)
 refine BU (x:=[]) (x':=[.list []]) (v:=.obj 5) (fun _ q=>Gz (Bc q)) rfl rfl (Nat.le_of_ble_eq_true rfl) ?_
 refine BU (x':=[.list [],.dict []]) (v:=.obj 6) (fun _ q=>Kv q) rfl rfl (Nat.le_of_ble_eq_true rfl) ?_
 refine BU (x':=[.list [],.dict [],.list [.none]]) (v:=.obj 7) (fun _ q=>Gz (Ba (R0 (Bc q)))) rfl rfl (Nat.le_of_ble_eq_true rfl) ?_
 refine BU (x':=[.list [],.dict [],.list [.none],.list []]) (v:=.obj 8) (fun _ q=>Gz (Bc q)) rfl rfl (Nat.le_of_ble_eq_true rfl) ?_
 refine BU (x':=[.list [],.dict [],.list [.none],.list [],.list []]) (v:=.obj 9) (fun _ q=>Gz (Bc q)) rfl rfl (Nat.le_of_ble_eq_true rfl) ?_
 refine BU (x':=[.list [],.dict [],.list [.none],.list [],.list [],.list []]) (v:=.obj 10) (fun _ q=>Gz (Bc q)) rfl rfl (Nat.le_of_ble_eq_true rfl) ?_
 refine BU (x':=[.list [],.dict [],.list [.none],.list [],.list [],.list [],.dict []]) (v:=.obj 11) (fun _ q=>Kv q) rfl rfl (Nat.le_of_ble_eq_true rfl) ?_
 refine BU (x':=[.list [],.dict [],.list [.none],.list [],.list [],.list [],.dict [],.dict []]) (v:=.obj 12) (fun _ q=>Kv q) rfl rfl (Nat.le_of_ble_eq_true rfl) ?_
 refine BU (x':=[.list [],.dict [],.list [.none],.list [],.list [],.list [],.dict [],.dict []]) (v:=.int 0) (fun _ q=>EF q) rfl rfl (Nat.le_of_ble_eq_true rfl) ?_
 refine BU (x':=[.list [],.dict [],.list [.none],.list [],.list [],.list [],.dict [],.dict []]) (v:=.int 0) (fun _ q=>EF q) rfl rfl (Nat.le_of_ble_eq_true rfl) ?_
 refine An (XM (IQ rfl ⟨Au,.tup Au,?_⟩))
 refine PF Au [] _ _ _ (Nat.le_of_ble_eq_true rfl) rfl L8 Rn (by decide) ⟨rfl,rfl,rfl,rfl,.nil,fun _ h=>(nL h),Nat.zero_le _⟩ fun st' σ' h1 h2 h3=>?_
 refine And.intro rfl (q st' h1 (h2 1 _ (by decide) (by decide) rfl) (h2 2 _ (by decide) (by decide) rfl) (fun i h8 h10=>h2 i _ (by omega) (by omega) ?_) ?_)
 ·rcases (by omega:i=8∨i=9∨i=10) with rfl | rfl | rfl<;>rfl
 rw [h3];exact Nat.le_of_ble_eq_true rfl
theorem Ol {n:Nat} {its:List PV} {σ:Lo} (h18:18<σ.length) (xs:List PV):∀ (out:List PV) (Q:List PV→St→Prop),out.length+xs.length≤1000→Q (out++xs) [.list its]→Gd (Wn n (.loc 18)) (Tn n (.bool true)) (.one 18) (.obj 0) its σ xs out [.list its] Q:=by
 induction xs with
 | nil=>exact fun out Q _ q=>List.append_nil out▸q
 | cons x xs ih =>
  intro out Q hl q
  have hl:out.length+(xs.length+1)≤1000:=hl
  refine ⟨_,.one 18 x,H6 rfl (XQ ⟨true,.bool true,Am (List.getElem?_set_self h18) ⟨rfl,by omega,?_⟩⟩)⟩
  exact ih (out++[x]) Q (by rw [List.length_append];show out.length+1+_≤_;omega) (by rw [List.append_assoc];exact q)
noncomputable def Bb:List PS:=FZ.body.drop 2
noncomputable def σ0 (ns:List Int):VL:=[some (.val (.imm (.fl ns))),some (.val .dd),some (.val .tab)]++List.replicate 28 none
theorem law_of_V (lv:∀ ns:List Int,ns.length≤63→∃ σ g,Bv (AA 60) Bb (σ0 ns) { rows:=Au,pos:=0,scr:=ns.take 40 }=some (.ret (.imm (.bool true)),σ,g)) (ns:List Int) (hns:ns.length≤63) :
  Xs tx.toTx (Call tx 60) FZ.body (some (.fl ns)::List.replicate 30 none) [] fun fl _ _=>fl=.ret (.bool true):=by
 show Nx 60 FZ.body _ _ _
 refine An (EU (Gz (Ba (EF (Ba (XO (XN (Am rfl (EF ⟨40,rfl,by decide,.fl (by omega) ⟨(ns.map PV.int).take 40,.list rfl,?_⟩⟩)))))))))
 have hl:((ns.map PV.int).take 40).length≤40:=by rw [List.length_take];exact Nat.min_le_left _ _
 refine Ol (by simp) _ [] _ (by show 0+_≤_;omega) (Bc ?_)
 refine An (EU (Kw (IQ rfl (Bc (.fn (PQ (n:=57) fun st ts h1 h2 hp h7=>?_))))))
 refine oEE (lv ns hns) fun σ g e=>?_
 refine oA (WU 60) fun HC HJ=>?_
 have h1':st[1]?=some (.list ((ns.take 40).map .int)):=by rw [h1,List.map_take];rfl
 have tail:∀ {i:Nat} {s:VS},(σ0 ns)[i+3]?=some (some s)→False:=fun h=>nomatch (List.mem_replicate.mp (List.mem_of_getElem? (show (List.replicate 28 (none:Option VS))[_]?=_ from h))).2
 refine C1 HC HJ Bb _ _ _ e st.length B _ st _ ⟨⟨rfl,fun i s h=>?_,fun i k s s' p _ h1 _ o1=>?_⟩,⟨ts,h2,h1',⟨[],hp 8 (by decide) (by decide),rfl⟩,⟨[],hp 9 (by decide) (by decide),rfl⟩,⟨[],hp 10 (by decide) (by decide),rfl⟩⟩,fun _ h=>h,fun o ho=>Nat.lt_of_lt_of_le (Wd o ho) h7,Nat.le_refl _,h7⟩ fun fl O' σ' st' hf hi hg=>?_
 ·match i,h with
  | 0,h=>cases h;exact ⟨_,rfl,(rfl:PV.fl ns=_)⟩
  | 1,h=>cases h;exact ⟨_,rfl,(rfl:PV.obj 2=_)⟩
  | 2,h=>cases h;exact ⟨_,rfl,(rfl:PV.obj 4=_)⟩
  | i+3,h=>exact (tail h).elim
 ·match i,h1 with
  | 0,h=>cases h;exact nB o1
  | 1,h=>cases h;exact nB o1
  | 2,h=>cases h;exact nB o1
  | i+3,h=>exact (tail h).elim
 ·refine oEA (hf.ret) fun p z0 hp=>?_;subst z0
  cases hp;rfl
noncomputable def Rt (C:VC) (ps:List PS) (σ:VL) (g:G) (v:VV) (g':G):Prop:=∃ σ',Bv C ps σ g=some (.ret v,σ',g')
section
variable {α β:Type}
theorem AJ {o:Option α} {k:α→Option β} {a:α} {r:Option β} (h:o=some a) (q:k a=r):o.bind k=r:=by rw [h];exact q
theorem Bz {o:Option α} {k:α→β} {a:α} (h:o=some a):o.map k=some (k a):=by rw [h];rfl
theorem orN {o:Option β} {f:β→Option α} {d r:Option α} (h:o=none) (q:d=r):TU o f d=r:=by rw [h];exact q
theorem orS {o:Option β} {f:β→Option α} {d r:Option α} {b:β} (h:o=some b) (q:f b=r):TU o f d=r:=by rw [h];exact q
end
theorem Fh {n:Nat} {l:List PV} (h:l.all (Ad n)=true):Ad (n+1) (.tup l)=true:=h
theorem BL {n:Nat} {p:PV} {l:List PV} (h:Ad n p=true) (hs:l.all (Ad n)=true):(p::l).all (Ad n)=true:=Bool.and_eq_true_iff.mpr ⟨h,hs⟩
theorem pl3 {s:Str} {a b:Int} (h:s.cps.all (·<0x110000)=true):Ad 4 (.tup [.str s,.int a,.int b])=true:=Fh (BL (n:=3) h (BL rfl (BL rfl rfl)))
theorem Pu {σ:VL} {i:Nat} {s:VS} (h:σ[i]?=some (some s)):Ck σ i=some s:=by unfold Ck;rw [h]
theorem AX {n i:Nat} {f:Fn} {vs:List VV} {g:G} {σ:VL} {v:VV} {g':G} (hf:QP[i]?=some f) (hs:IX f vs=some σ) (hi:i≠1∧i≠55∧i≠12) (h:Rt (AA n) f.body σ g v g'):AA (n+1) (.fn i) vs g=some (v,g'):=by
 obtain ⟨σ',h⟩:=h
 exact (if_neg fun q=>q.elim hi.1 fun q=>q.elim hi.2.1 hi.2.2).trans (AJ hf (AJ hs (AJ h rfl)))
section
variable {C:VC} {σ σ1 σ2:VL} {g g1 g2 g':G} {v w:VV} {r:List PS}
theorem Av {s:PS} (h:VX C s σ g=some (.next,σ1,g1)) (q:Rt C r σ1 g1 v g'):Rt C (s::r) σ g v g':=by
 obtain ⟨σ',q⟩:=q
 exact ⟨σ',AJ h q⟩
theorem LG {s:PS} (h:VX C s σ g=some (.ret v,σ1,g1)):Rt C (s::r) σ g v g1:=⟨σ1,AJ h rfl⟩
theorem Ec {e:PE} (h:VE C e (fz (locs e) σ) g=some (v,g')):Rt C (.ret e::r) σ g v g':=LG (σ1:=fz (locs e) σ) (Bz h)
theorem ET {i:Nat} {e:PE} (h0:VX C (.assign i e) σ g=OS C i e (fz (locs e) σ) g) (h:VE C e (fz (locs e) σ) g=some (w,g1)):VX C (.assign i e) σ g=some (.next,(fz (locs e) σ).set i (some (.val w)),g1):=h0.trans (AJ h rfl)
theorem DU {i:Nat} {e:PE} (h0:VX C (.assign i e) σ g=OS C i e (fz (locs e) σ) g) (h:VE C e (fz (locs e) σ) g=some (w,g1))
  (q:Rt C r ((fz (locs e) σ).set i (some (.val w))) g1 v g'):Rt C (.assign i e::r) σ g v g':=Av (ET h0 h) q
theorem DP {i:Nat} {f:PE} {as:List PE}:VX C (.assign i (.call f as)) σ g=OS C i (.call f as) (fz (locs (.call f as)) σ) g:=rfl
theorem RB {l:List Nat} {e:PE} (h:VE C e (fz (locs e) σ) g=some (w,g1)) (hb:B3 (.many l) w (fz (locs e) σ)=some σ1) (q:Rt C r σ1 g1 v g'):Rt C (.assignT l e::r) σ g v g':=Av (AJ h (Bz hb)) q
theorem RA {c:PE} {t f:List PS} (h:VT C c (VE C c) (fz (locs c) σ) g=some (true,g1)) (q:Rt C t (fz (locs c) σ) g1 v g'):Rt C (.ite c t f::r) σ g v g':=by
 obtain ⟨σ',q⟩:=q
 exact LG (σ1:=σ') (AJ h q)
theorem DH {c:PE} {t:List PS} (h:VT C c (VE C c) (fz (locs c) σ) g=some (false,g1)) (q:Rt C r (fz (locs c) σ) g1 v g'):Rt C (.ite c t []::r) σ g v g':=Av (AJ h rfl) q
theorem U3 {c:PE} {t f:List PS} {b:Bool} (h:VT C c (VE C c) (fz (locs c) σ) g=some (b,g1)) (q:Bv C (if b then t else f) (fz (locs c) σ) g1=some (.next,σ2,g2)):VX C (.ite c t f) σ g=some (.next,σ2,g2):=by
 cases b<;>exact AJ h q
theorem OQ {t:PT} {it:PE} {body:List PS} {its:List VV} (h:VE C it (fz (locs it) σ) g=some (w,g1)) (hi:Bs w=some its) (hl:AU (Bv C body) t its (fz (locs it) σ) g1=some (.next,σ2,g2)) (q:Rt C r σ2 g2 v g') :
  Rt C (.loop t it body::r) σ g v g':=Av (AJ h (AJ hi hl)) q
theorem IB {t:PT} {it:PE} {body:List PS} {its:List VV} (h:VE C it (fz (locs it) σ) g=some (w,g1)) (hi:Bs w=some its) (hl:AU (Bv C body) t its (fz (locs it) σ) g1=some (.ret v,σ2,g')) :
  Rt C (.loop t it body::r) σ g v g':=LG (AJ h (AJ hi hl))
theorem AD {s:PS} {x:VR} (h:VX C s σ g=some (.next,σ1,g1)) (q:Bv C r σ1 g1=x):Bv C (s::r) σ g=x:=AJ h q
theorem ES {s:PS} (h:VX C s σ g=some (.ret v,σ1,g1)):Bv C (s::r) σ g=some (.ret v,σ1,g1):=AJ h rfl
theorem AG:Bv C [] σ g=some (.next,σ,g):=rfl
theorem Kf {i:Nat} (h:σ[i]?=some (some (.val v))):VE C (.loc i) σ g=some (v,g):=AJ (Pu h) rfl
theorem AH {k i:Nat} {as:List PE} {vs:List VV} {x:VV×G} (hk:Ra.getD k .none=.fn i) (hp:Mo σ as=none) (ha:Ny C as σ g=some (vs,g1)) (hc:C (.fn i) vs g1=some x):VE C (.call (.gl k) as) σ g=some x :=
 orN hp (AJ ha ((congrArg (fun h=>QW C h vs g1) hk).trans hc))
theorem PI {k i:Nat} {as:List PE} {a:VV} {x:VV×G} (hk:Ra.getD k .none=.fn i) (hp:Mo σ as=some a) (hc:C (.fn i) [a] g=some x) (hx:P6 x=some x):VE C (.call (.gl k) as) σ g=some x :=
 orS hp ((congrArg (fun h=>QV C h a g) hk).trans (AJ hc hx))
theorem BH {k:Nat} {b:Bi} {as:List PE} {vs:List VV} (hk:Ra.getD k .none=.bi b) (hp:Mo σ as=none) (ha:Ny C as σ g=some (vs,g1)) (hc:L7 b vs=some v):VE C (.call (.gl k) as) σ g=some (v,g1) :=
 orN hp (AJ ha ((congrArg (fun h=>QW C h vs g1) hk).trans (Bz hc)))
theorem UJ {k:Nat} {b:Bi} {as:List PE} {a:VV} (hk:Ra.getD k .none=.bi b) (hp:Mo σ as=some a) (hc:L7 b [a]=some v):VE C (.call (.gl k) as) σ g=some (v,g) :=
 orS hp ((congrArg (fun h=>QV C h a g) hk).trans (Bz hc))
theorem AR:Ny C [] σ g=some ([],g):=rfl
theorem AB {e:PE} {es:List PE} {vs:List VV} (h:VE C e σ g=some (v,g1)) (hs:Ny C es σ g1=some (vs,g2)):Ny C (e::es) σ g=some (v::vs,g2):=AJ h (Bz hs)
theorem Af {e i:PE} {k:VV} (hp:peek σ e=none) (h:VE C e σ g=some (w,g1)) (hi:VE C i σ g1=some (k,g2)) (hs:GG g2 w k=some v):VE C (.sub e i) σ g=some (v,g2):=orN hp (AJ h (AJ hi (Bz hs)))
theorem Aj {op:Operator} {a b:PE} {x y:VV} (ha:VE C a σ g=some (x,g1)) (hb:VE C b σ g1=some (y,g2)) (h:Hz op x y=some v):VE C (.bin op a b) σ g=some (v,g2):=AJ ha (AJ hb (Bz h))
theorem CM {op:CmpOp} {a b:PE} {x y:VV} {z:Bool} (ha:VE C a σ g=some (x,g1)) (hb:VE C b σ g1=some (y,g2)) (h:EP op x y=some z):VE C (.cmp op a b) σ g=some (.imm (.bool z),g2):=AJ ha (AJ hb (Bz h))
theorem CL {es:List PE} {vs:List VV} (h:Ny C es σ g=some (vs,g1)):VE C (.tup es) σ g=some (mkTup vs,g1):=AJ h rfl
theorem UI {es:List PE} {vs:List VV} (h:Ny C es σ g=some (vs,g1)):VE C (.list es) σ g=some (.lst vs,g1):=AJ h rfl
theorem Fv {o:PE} {m:Nat} {as:List PE} {b:VV} {vs:List VV} {x:VV×G} (ho:VE C o σ g=some (b,g1)) (ha:Ny C as σ g1=some (vs,g2)) (h:Th C b m vs g2=some x):VE C (.meth o m as) σ g=some x:=AJ ho (AJ ha h)
theorem A9 {c a b:PE} {t:Bool} {x:VV×G} (hc:VT C c (VE C c) σ g=some (t,g1)) (h:VE C (if t then a else b) σ g1=some x):VE C (.ite c a b) σ g=some x:=by
 cases t<;>exact AJ hc h
theorem Zj {e:PE} {b:Bool} (h:VE C e σ g=some (w,g1)) (ht:Ch w=some b):VE C (.not e) σ g=some (.imm (.bool !b),g1):=AJ h (Bz ht)
theorem BO {elt:PE} {t:PT} {it cond:PE} {its out:List VV} (h:VE C it σ g=some (w,g1)) (hi:Bs w=some its) (hl:BQ (VE C elt) (VT C cond (VE C cond)) t σ its [] g1=some (out,g2)):VE C (.comp elt t it cond) σ g=some (.lst out,g2):=AJ h (AJ hi (Bz hl))
theorem Jp {e:PE} {b:Bool} (h0:VT C e (VE C e) σ g=(VE C e σ g).bind fun v=>(Ch v.1).map fun b=>(b,v.2)) (h:VE C e σ g=some (w,g1)) (ht:Ch w=some b):VT C e (VE C e) σ g=some (b,g1):=h0.trans (AJ h (Bz ht))
theorem AK {op:CmpOp} {a b:PE} {x y:VV} {z:Bool} (ha:VE C a σ g=some (x,g1)) (hb:VE C b σ g1=some (y,g2)) (h:EP op x y=some z):VT C (.cmp op a b) (VE C (.cmp op a b)) σ g=some (z,g2):=Jp rfl (CM ha hb h) rfl
theorem v_not {e:PE} {b:Bool} (h:VT C e (VE C e) σ g=some (b,g1)):VT C (.not e) (VE C (.not e)) σ g=some (!b,g1):=Bz h
theorem EW:VT C (.bop .Or []) (VE C (.bop .Or [])) σ g=some (false,g):=rfl
theorem DQ:VT C (.bop .And []) (VE C (.bop .And [])) σ g=some (true,g):=rfl
theorem G2 {e:PE} {es:List PE} (h:VT C e (VE C e) σ g=some (true,g1)):VT C (.bop .Or (e::es)) (VE C (.bop .Or (e::es))) σ g=some (true,g1):=AJ h rfl
theorem Bm {e:PE} {es:List PE} {x:Bool×G} (h:VT C e (VE C e) σ g=some (false,g1)) (q:VT C (.bop .Or es) (VE C (.bop .Or es)) σ g1=some x):VT C (.bop .Or (e::es)) (VE C (.bop .Or (e::es))) σ g=some x:=AJ h q
theorem A6 {e:PE} {es:List PE} (h:VT C e (VE C e) σ g=some (false,g1)):VT C (.bop .And (e::es)) (VE C (.bop .And (e::es))) σ g=some (false,g1):=AJ h rfl
theorem A5 {e:PE} {es:List PE} {x:Bool×G} (h:VT C e (VE C e) σ g=some (true,g1)) (q:VT C (.bop .And es) (VE C (.bop .And es)) σ g1=some x):VT C (.bop .And (e::es)) (VE C (.bop .And (e::es))) σ g=some x:=AJ h q
theorem Az {i:Nat} {p:PV} (h:g.rows[i]?=some p):GG g .rws (.imm (.int i))=some (.imm p):=by
 show (if (0:Int)≤(i:Int) then (g.rows[i]?).map VV.imm else none)=_
 rw [if_pos (Int.natCast_nonneg i),h];rfl
theorem Um {α:Type} {l:List α} {i:Nat} {p:α} (hl:l.length≤100000) (h:l[i]?=some p):atI l (i:Int)=some p:=(if_pos hl).trans ((if_pos (Int.natCast_nonneg i)).trans h)
theorem C9 {l:List PV} {i:Nat} {p:PV} (hl:l.length≤100000) (h:l[i]?=some p):GG g (.imm (.tup l)) (.imm (.int i))=some (.imm p):=Bz (Um hl h)
theorem E5 {l:List VV} {i:Nat} {p:VV} (hl:l.length≤100000) (h:l[i]?=some p):GG g (.lst l) (.imm (.int i))=some p:=Um hl h
theorem Ak {a b:Int} {z:Bool} (h:decide (a=b)=z):EP .Eq (.imm (.int a)) (.imm (.int b))=some z:=congrArg some h
theorem CQ {a b:Int} {z:Bool} (h:(!decide (a=b))=z):EP .NotEq (.imm (.int a)) (.imm (.int b))=some z:=congrArg some h
theorem Fy {a b:Int} {z:Bool} (h:decide (a<b)=z):EP .Lt (.imm (.int a)) (.imm (.int b))=some z:=congrArg some h
theorem cmp_gt {a b:Int} {z:Bool} (h:decide (b<a)=z):EP .Gt (.imm (.int a)) (.imm (.int b))=some z:=congrArg some h
theorem EA {a b:Int} {z:Bool} (h:decide (b≤a)=z):EP .GtE (.imm (.int a)) (.imm (.int b))=some z:=congrArg some h
theorem Lq {a b:Int} {z:Bool} (h:decide (a≤b)=z):EP .LtE (.imm (.int a)) (.imm (.int b))=some z:=congrArg some h
theorem QR {a b:PE} {x y:Bool} (ha:VE C a σ g=some (.imm (.bool x),g)) (hb:VE C b σ g=some (.imm (.bool y),g)):VE C (.bop .And [a,b]) σ g=some (.imm (.bool (x&&y)),g):=by
 cases x
 ·exact AJ ha rfl
 ·exact AJ ha hb
theorem Zi {a b:PE} {x y:Bool} (ha:VE C a σ g=some (.imm (.bool x),g)) (hb:VE C b σ g=some (.imm (.bool y),g)):VE C (.bop .Or [a,b]) σ g=some (.imm (.bool (x||y)),g):=by
 cases x
 ·exact AJ ha hb
 ·exact AJ ha rfl
noncomputable def NO (σ:VL):Bool:=σ.all fun s=>match s with
 | some s=>(Mq s).isNone
 | none=>true
theorem AE {ls:List Nat} {σ:VL} (h:NO σ=true):fz ls σ=σ:=by
 unfold fz
 induction ls with
 | nil=>rfl
 | cons i ls ih =>
  have:W7 σ i=σ:=by
   unfold W7
   cases e:(Ck σ i).bind Mq with
   | none=>rfl
   | some v =>
    obtain ⟨s,e1,e2⟩:=AP e
    have:=List.all_eq_true.mp h _ (List.mem_of_getElem? (Bp e1))
    have:(Mq s).isNone=true:=this
    rw [e2] at this
    exact nB this
  rw [List.foldl_cons,this];exact ih
section
variable {σ0:VL}
theorem AS {e:PE} (hσ:fz (locs e) σ=σ0) (h:VE C e σ0 g=some (v,g')):Rt C (.ret e::r) σ g v g':=Ec (by rw [hσ];exact h)
theorem AO {i:Nat} {e:PE} (hσ:fz (locs e) σ=σ0) (h0:VX C (.assign i e) σ g=OS C i e (fz (locs e) σ) g) (h:VE C e σ0 g=some (w,g1)):VX C (.assign i e) σ g=some (.next,σ0.set i (some (.val w)),g1):=by
 subst hσ;exact ET h0 h
theorem AF {i:Nat} {e:PE} (hσ:fz (locs e) σ=σ0) (h0:VX C (.assign i e) σ g=OS C i e (fz (locs e) σ) g) (h:VE C e σ0 g=some (w,g1))
  (q:Rt C r (σ0.set i (some (.val w))) g1 v g'):Rt C (.assign i e::r) σ g v g':=Av (AO hσ h0 h) q
theorem Dl {l:List Nat} {e:PE} (hσ:fz (locs e) σ=σ0) (h:VE C e σ0 g=some (w,g1)) (hb:B3 (.many l) w σ0=some σ1) (q:Rt C r σ1 g1 v g'):Rt C (.assignT l e::r) σ g v g':=by
 subst hσ;exact RB h hb q
theorem Ce {l:List Nat} {e:PE} (hσ:fz (locs e) σ=σ0) (h:VE C e σ0 g=some (w,g1)) (hb:B3 (.many l) w σ0=some σ1):VX C (.assignT l e) σ g=some (.next,σ1,g1):=by
 subst hσ;exact AJ h (Bz hb)
theorem Cm {c:PE} {t f:List PS} (hσ:fz (locs c) σ=σ0) (h:VT C c (VE C c) σ0 g=some (true,g1)) (q:Rt C t σ0 g1 v g'):Rt C (.ite c t f::r) σ g v g':=by
 subst hσ;exact RA h q
theorem As {c:PE} {t:List PS} (hσ:fz (locs c) σ=σ0) (h:VT C c (VE C c) σ0 g=some (false,g1)) (q:Rt C r σ0 g1 v g'):Rt C (.ite c t []::r) σ g v g':=by
 subst hσ;exact DH h q
theorem Ag {c:PE} {t f:List PS} {b:Bool} {x:VR} (hσ:fz (locs c) σ=σ0) (h:VT C c (VE C c) σ0 g=some (b,g1)) (q:Bv C (if b then t else f) σ0 g1=x):VX C (.ite c t f) σ g=x:=by
 subst hσ
 cases b<;>exact AJ h q
theorem Ai {t:PT} {it:PE} {body:List PS} {its:List VV} (hσ:fz (locs it) σ=σ0) (h:VE C it σ0 g=some (w,g1)) (hi:Bs w=some its) (hl:AU (Bv C body) t its σ0 g1=some (.next,σ2,g2)) (q:Rt C r σ2 g2 v g') :
  Rt C (.loop t it body::r) σ g v g':=by subst hσ;exact OQ h hi hl q
theorem Ig {t:PT} {it:PE} {body:List PS} {its:List VV} (hσ:fz (locs it) σ=σ0) (h:VE C it σ0 g=some (w,g1)) (hi:Bs w=some its) (hl:AU (Bv C body) t its σ0 g1=some (.ret v,σ2,g')) :
  Rt C (.loop t it body::r) σ g v g':=by subst hσ;exact IB h hi hl
theorem Ao {i:Nat} {a:PE} {l:List VV} (hσ:fz (locs a) σ=σ0) (h:VE C a σ0 g=some (w,g1)) (hi:σ0[i]?=some (some (.own l))) (hl:l.length≤100000):VX C (.expr (.meth (.loc i) 0 [a])) σ g=some (.next,σ0.set i (some (.own (l++[w]))),g1):=by
 subst hσ
 exact AJ h (AJ (Pu hi) (if_pos hl))
theorem B5 {i:Nat} {es:List PE} {vs:List VV} (hσ:fz (FX es) σ=σ0) (h:Ny C es σ0 g=some (vs,g1)) (q:Rt C r (σ0.set i (some (.own vs))) g1 v g'):Rt C (.assign i (.list es)::r) σ g v g':=by
 subst hσ
 exact Av (AJ h rfl) q
theorem Ry {i:Nat} {es:List PE} {vs:List VV} (hσ:fz (FX es) σ=σ0) (h:Ny C es σ0 g=some (vs,g1)):VX C (.assign i (.list es)) σ g=some (.next,σ0.set i (some (.own vs)),g1):=by
 subst hσ
 exact AJ h rfl
end
theorem Bl {α:Type} {elt:VL→G→Option (VV×G)} {cond:VL→G→Option (Bool×G)} {t:PT} {σ:VL} {g:G} (p:α→Bool) (f:α→VV) (enc:α→VV) (xs:List α) :
  ∀ (out:List VV),out.length+xs.length≤100000→(∀ x∈xs,∃ σ',B3 t (enc x) σ=some σ'∧cond σ' g=some (p x,g)∧(p x=true→elt σ' g=some (f x,g))) →
  BQ elt cond t σ (xs.map enc) out g=some (out++(xs.filter p).map f,g):=by
 induction xs with
 | nil=>exact fun out _ _=>congrArg (fun l=>some (l,g)) (List.append_nil out).symm
 | cons x xs ih =>
  intro out hl h
  refine oEAA (h x (.head _)) fun σ' h1 h2 h3=>?_
  have hl:out.length+(xs.length+1)≤100000:=hl
  rw [List.filter_cons]
  cases hp:p x with
  | true =>
   rw [hp] at h2
   refine AJ h1 (AJ h2 (AJ (h3 hp) ((if_pos (by omega)).trans ((ih (out++[f x]) (by rw [List.length_append];show out.length+1+_≤_;omega) fun y hy=>h y (.tail _ hy)).trans ?_))))
   rw [List.append_assoc];rfl
  | false =>
   rw [hp] at h2
   exact AJ h1 (AJ h2 (ih out (by omega) fun y hy=>h y (.tail _ hy)))
theorem Zl {elt:VL→G→Option (VV×G)} {cond:VL→G→Option (Bool×G)} {t:PT} {σ:VL} (P:List VV→List VV→G→Prop)
  (step:∀ x xs out g,P (x::xs) out g→out.length≤100000∧∃ σ' b g1,B3 t x σ=some σ'∧cond σ' g=some (b,g1)∧if b=true then ∃ v g2,elt σ' g1=some (v,g2)∧P xs (out++[v]) g2 else P xs out g1) (xs:List VV) :
  ∀ (out:List VV) (g:G),P xs out g→∃ out' g',BQ elt cond t σ xs out g=some (out',g')∧P [] out' g':=by
 induction xs with
 | nil=>exact fun out g h=>⟨out,g,rfl,h⟩
 | cons x xs ih =>
  intro out g h
  refine oAEEEAA (step x xs out g h) fun hl σ' b g1 h1 h2 h3=>?_
  cases b with
  | true =>
   refine oEEA h3 fun v g2 h4 h5=>?_
   refine oEEA (ih _ g2 h5) fun o' g' h6 h7=>?_
   exact ⟨o',g',AJ h1 (AJ h2 (AJ h4 ((if_pos hl).trans h6))),h7⟩
  | false =>
   refine oEEA (ih _ g1 h3) fun o' g' h6 h7=>?_
   exact ⟨o',g',AJ h1 (AJ h2 h6),h7⟩
theorem ZJ {body:VL→G→VR} {t:PT} (P:List VV→VL→G→Prop)
  (step:∀ x xs σ g,P (x::xs) σ g→∃ σ1 σ2 g2,B3 t x σ=some σ1∧body σ1 g=some (.next,σ2,g2)∧P xs σ2 g2) (xs:List VV) :
  ∀ (σ:VL) (g:G),P xs σ g→∃ σ' g',AU body t xs σ g=some (.next,σ',g')∧P [] σ' g':=by
 induction xs with
 | nil=>exact fun σ g h=>⟨σ,g,rfl,h⟩
 | cons x xs ih =>
  intro σ g h
  refine oEEEAA (step x xs σ g h) fun σ1 σ2 g2 h1 h2 h3=>?_
  refine oEEA (ih σ2 g2 h3) fun σ' g' h4 h5=>?_
  exact ⟨σ',g',AJ h1 (AJ h2 h4),h5⟩
theorem ZI {body:VL→G→VR} {t:PT} (P:List VV→VL→G→Prop) (R:VV→G→Prop)
  (step:∀ x xs σ g,P (x::xs) σ g→∃ σ1,B3 t x σ=some σ1∧((∃ σ2 g2,body σ1 g=some (.next,σ2,g2)∧P xs σ2 g2)∨∃ v σ2 g2,body σ1 g=some (.ret v,σ2,g2)∧R v g2)) (xs:List VV) :
  ∀ (σ:VL) (g:G),P xs σ g→(∃ σ' g',AU body t xs σ g=some (.next,σ',g')∧P [] σ' g')∨∃ v σ' g',AU body t xs σ g=some (.ret v,σ',g')∧R v g':=by
 induction xs with
 | nil=>exact fun σ g h=>.inl ⟨σ,g,rfl,h⟩
 | cons x xs ih =>
  intro σ g h
  obtain ⟨σ1,h1,⟨σ2,g2,h2,h3⟩ | ⟨v,σ2,g2,h2,h3⟩⟩:=step x xs σ g h
  ·refine Or.elim (ih σ2 g2 h3) (fun z0=>oEEA z0 fun σ' g' h4 h5=>?_) fun z1=>oEEEA z1 fun v σ' g' h4 h5=>?_
   ·exact .inl ⟨σ',g',AJ h1 (AJ h2 h4),h5⟩
   ·exact .inr ⟨v,σ',g',AJ h1 (AJ h2 h4),h5⟩
  ·exact .inr ⟨v,σ2,g2,AJ h1 (AJ h2 rfl),h3⟩
end
noncomputable def AI:List Int:=[0,1,3,4,5,6,7,8,9,16,17,18]
noncomputable abbrev Kn:=Int→Bool
noncomputable def toS (K:Kn):List Int:=AI.filter K
noncomputable def By (K:Kn):Kn:=fun a=>if K 0 then a==0 else if K 1 then a==1 else K a&&!((a==16||a==17)&&K 6)&&!(a==18&&K 7)
noncomputable def BS (Ks:List Kn):Kn:=fun a=>Ks.any fun K=>K a
noncomputable def Aa:List PV:=Au++[.tup [.int 3,.str (sO "a"),.int 0],.tup [.int 3,.str (sO "b"),.int 0],.tup [.int 4,.int 1,.int 0]]
noncomputable def EM (S:List Int):PV:=.tup [.int 6,.tup (S.map .int)]
noncomputable def Ru:PV→Bool
 | .tup (.int i::_)=>i==6
 | _=>false
structure GK (m:Nat) (g:G):Prop where
 base:∃ r,g.rows=Aa++r
 nd:g.rows.Nodup
 un:∀ row∈g.rows,Ru row=true→∃ K,row=EM (toS K)
 cnt:(g.rows.filter fun r=>!Ru r).length≤m
structure C3 (g g':G):Prop where
 rows:∃ x,g'.rows=g.rows++x
 scr:g'.scr=g.scr
 np:g'.np=g.np
theorem C3.refl {g:G}:C3 g g:=⟨⟨[],by simp⟩,rfl,rfl⟩
theorem C3.trans {a b c:G} (h:C3 a b) (h':C3 b c):C3 a c:=by
 refine oE (h.rows) fun x hx=>?_
 refine oE (h'.rows) fun y hy=>?_
 exact ⟨⟨x++y,by rw [hy,hx,List.append_assoc]⟩,h'.scr.trans h.scr,h'.np.trans h.np⟩
theorem C3.at {g g':G} (h:C3 g g') {i:Nat} {r:PV} (e:g.rows[i]?=some r):g'.rows[i]?=some r:=by
 refine oE (h.rows) fun x hx=>?_
 rw [hx,List.getElem?_append_left (gI e).1];exact e
structure Kd (g:G) (t:Int) (K:Kn):Prop where
 nm:∀ a∈AI,By K a=K a
 rep:(toS K=[]∧t=2)∨toS K=[t]∨(2≤(toS K).length∧∃ i:Nat,t=i∧g.rows[i]?=some (EM (toS K)))
theorem G5 {K L:Kn} (h:∀ a∈AI,K a=L a):toS K=toS L:=List.filter_congr h
theorem DY {K L:Kn} (h:∀ a∈AI,K a=L a):∀ a∈AI,By K a=By L a:=by
 intro a ha
 unfold By
 rw [h 0 (by decide),h 1 (by decide),h 6 (by decide),h 7 (by decide),h a ha]
theorem Kd.congr {g:G} {t:Int} {K L:Kn} (h:Kd g t K) (e:∀ a∈AI,K a=L a):Kd g t L :=
 ⟨fun a ha=>by rw [←DY e a ha,←e a ha];exact h.nm a ha,by rw [←G5 e];exact h.rep⟩
theorem Kd.ext {g g':G} {t:Int} {K:Kn} (h:Kd g t K) (e:C3 g g'):Kd g' t K :=
 ⟨h.nm,h.rep.imp id (Or.imp id fun ⟨h1,i,h2,h3⟩=>⟨h1,i,h2,e.at h3⟩)⟩
theorem Ae {K:Kn} {a:Int}:a∈toS K↔a∈AI∧K a=true:=List.mem_filter
theorem VP {K L:Kn} (h:toS K=toS L):∀ a∈AI,K a=L a:=by
 intro a ha
 have h1:a∈toS K↔a∈toS L:=by rw [h]
 rw [Ae,Ae] at h1
 cases hk:K a<;>cases hl:L a<;>simp_all
theorem Da (a:Int) (ha:a∈AI):∃ k x,Aa[a.toNat]?=some (.tup (.int k::x))∧k≠6∧0≤a∧x.length≤10:=by
 revert a
 simp only [AI,List.forall_mem_cons,List.not_mem_nil,false_implies,implies_true,and_true]
 refine ⟨?_,?_,?_,?_,?_,?_,?_,?_,?_,?_,?_,?_⟩<;>exact ⟨_,_,rfl,by decide,by decide,by simp⟩
theorem GK.row {m:Nat} {g:G} (gk:GK m g) {i:Nat} {r:PV} (h:Aa[i]?=some r):g.rows[i]?=some r:=by
 refine oE (gk.base) fun x hx=>?_
 rw [hx,List.getElem?_append_left (gI h).1];exact h
theorem Ey:Aa[2]?=some (.tup [.int 1,.str (sO "never")]):=rfl
theorem Kd.inj {m:Nat} {g:G} (gk:GK m g) {t:Int} {K L:Kn} (h:Kd g t K) (h':Kd g t L):∀ a∈AI,K a=L a:=by
 refine VP ?_
 have atom:∀ M:Kn,toS M=[t]→t∈AI:=fun M e=>(Ae.mp (by rw [e];exact .head _)).1
 have un:∀ (i:Nat) (S:List Int),t=i→g.rows[i]?=some (EM S)→t≠2∧t∉AI:=by
  intro i S ht hr
  constructor
  ·intro e
   have:i=2:=by omega
   subst this
   rw [gk.row Ey] at hr
   simp [EM] at hr
  ·intro ha
   refine oEEAAA (Da t ha) fun k x h1 h2 h3 h4=>?_
   rw [ht] at h1
   simp at h1
   rw [gk.row h1] at hr
   simp [EM] at hr
   exact h2 hr.1
 refine Or.elim (h.rep) (fun z1=>oA z1 fun e1 e2=>?_) fun z3=>Or.elim z3 (fun e1=>?_) fun z2=>oAEA z2 fun e1 i e2 e3=>?_
 ·refine Or.elim (h'.rep) (fun z1=>oA z1 fun f1 f2=>?_) fun z3=>Or.elim z3 (fun f1=>?_) fun z2=>oAEA z2 fun f1 j f2 f3=>?_
  ·rw [e1,f1]
  ·exact absurd (atom L f1) (by rw [e2];decide)
  ·exact absurd e2 (un j _ f2 f3).1
 ·refine Or.elim (h'.rep) (fun z1=>oA z1 fun f1 f2=>?_) fun z3=>Or.elim z3 (fun f1=>?_) fun z2=>oAEA z2 fun f1 j f2 f3=>?_
  ·exact absurd (atom K e1) (by rw [f2];decide)
  ·rw [e1,f1]
  ·exact absurd (atom K e1) (un j _ f2 f3).2
 ·refine Or.elim (h'.rep) (fun z1=>oA z1 fun f1 f2=>?_) fun z3=>Or.elim z3 (fun f1=>?_) fun z2=>oAEA z2 fun f1 j f2 f3=>?_
  ·exact absurd f2 (un i _ e2 e3).1
  ·exact absurd (atom L f1) (un i _ e2 e3).2
  ·have:i=j:=by omega
   subst this
   rw [e3] at f3
   simp only [EM,Option.some.injEq,PV.tup.injEq,List.cons.injEq,and_true,true_and] at f3
   exact Ei.mp f3
theorem Il {l:List PV} (nd:l.Nodup) {i j:Nat} {r:PV} (hi:l[i]?=some r) (hj:l[j]?=some r):i=j:=by
 have:=CF nd hi
 have:=CF nd hj
 omega
theorem Kd.uniq {m:Nat} {g:G} (gk:GK m g) {t t':Int} {K L:Kn} (h:Kd g t K) (h':Kd g t' L) (e:∀ a∈AI,K a=L a):t=t':=by
 have h':=h'.congr fun a ha=>(e a ha).symm
 refine Or.elim (h.rep) (fun z1=>oA z1 fun e1 e2=>?_) fun z3=>Or.elim z3 (fun e1=>?_) fun z2=>oAEA z2 fun e1 i e2 e3=>?_<;>refine Or.elim (h'.rep) (fun z1=>oA z1 fun f1 f2=>?_) fun z3=>Or.elim z3 (fun f1=>?_) fun z2=>oAEA z2 fun f1 j f2 f3=>?_
 ·rw [e2,f2]
 ·rw [e1] at f1;simp at f1
 ·rw [e1] at f1;simp at f1
 ·rw [e1] at f1;simp at f1
 ·rw [e1] at f1;simpa using f1
 ·rw [e1] at f1;simp at f1
 ·rw [f1] at e1;simp at e1
 ·rw [f1] at e1;simp at e1
 ·rw [e2,f2,Il gk.nd e3 f3]
noncomputable def subs:List Int→List (List Int)
 | []=>[[]]
 | a::l=>subs l++(subs l).map (a::·)
theorem Hu (K:Kn):∀ l,l.filter K∈subs l
 | []=>by simp [subs]
 | a::l=>by
  have:=Hu K l
  simp only [subs,List.mem_append,List.mem_map]
  cases h:K a with
  | true=>exact .inr ⟨_,this,by simp [h]⟩
  | false=>exact .inl (by simpa [h] using this)
open scoped Classical in
theorem TZ {l l':List PV} (nd:l.Nodup) (h:∀ x∈l,x∈l'):l.length≤l'.length:=by
 induction l generalizing l' with
 | nil=>simp
 | cons a l ih =>
  rw [List.nodup_cons] at nd
  have ha:=h a (.head _)
  have:=ih nd.2 (l':=l'.erase a) fun x hx=>(List.mem_erase_of_ne (fun e=>nd.1 (by rw [←e];exact hx))).mpr (h x (.tail _ hx))
  rw [List.length_erase_of_mem ha] at this
  have:0<l'.length:=List.length_pos_of_mem ha
  simp only [List.length_cons];omega
theorem NY (l:List PV) (p:PV→Bool):l.length=(l.filter p).length+(l.filter fun r=>!p r).length:=by
 induction l with
 | nil=>rfl
 | cons a l ih=>cases h:p a<;>simp [h]<;>omega
theorem Sc:(subs AI).length=4096:=by decide +kernel
theorem GK.len {m:Nat} {g:G} (gk:GK m g):g.rows.length≤m+4096:=by
 have h1:(g.rows.filter Ru).length≤((subs AI).map EM).length:=by
  refine TZ (gk.nd.sublist List.filter_sublist) fun x hx=>?_
  rw [List.mem_filter] at hx
  refine oE (gk.un x hx.1 hx.2) fun K z0=>?_;subst z0
  exact List.mem_map_of_mem (Hu K AI)
 rw [List.length_map,Sc] at h1
 have:=NY g.rows Ru
 have:=gk.cnt
 omega
theorem GJ {m:Nat} {g:G} (gk:GK m g) (hm:m≤1000) {r:PV} (h1:r.isTup=true) (h2:r.plain=true) (hu:Ru r=true→∃ K,r=EM (toS K)) :
  ∃ (i:Nat) (g':G),Br g r=some (.imm (.int i),g')∧g'.rows[i]?=some r∧C3 g g'∧GK (m+1) g'∧(Ru r=true→GK m g')∧(r∈g.rows→g'=g):=by
 have hl:=gk.len
 unfold Br
 rw [if_pos ⟨h1,h2,by omega⟩]
 by_cases hr:r∈g.rows
 ·rw [if_pos hr]
  refine oE (List.getElem?_of_mem hr) fun i hi=>?_
  rw [CF gk.nd hi]
  exact ⟨i,g,rfl,hi,.refl,⟨gk.base,gk.nd,gk.un,Nat.le_succ_of_le gk.cnt⟩,fun _=>gk,fun _=>rfl⟩
 ·rw [if_neg hr]
  refine oE (gk.base) fun x hx=>?_
  have nd:(g.rows++[r]).Nodup:=List.nodup_append.mpr ⟨gk.nd,by simp,fun a ha b hb=>by simp at hb;subst hb;exact fun e=>hr (e▸ha)⟩
  have un:∀ row∈g.rows++[r],Ru row=true→∃ K,row=EM (toS K):=by
   intro row hrow h
   rcases mA hrow with h' | h'
   ·exact gk.un row h' h
   ·simp at h';subst h';exact hu h
  refine ⟨_,_,rfl,by simp,⟨⟨[r],rfl⟩,rfl,rfl⟩,⟨⟨x++[r],by simp [hx]⟩,nd,un,?_⟩,fun h=>⟨⟨x++[r],by simp [hx]⟩,nd,un,?_⟩,fun h=>absurd h hr⟩
  ·have:=gk.cnt
   simp only [List.filter_append,List.length_append]
   have:(List.filter (fun r=>!Ru r) [r]).length≤1:=List.length_filter_le _ _
   omega
  ·have:=gk.cnt
   simp only [List.filter_append,List.length_append]
   simp [h];omega
theorem EV {n:Nat} {g:G} {i:Nat} {k:Int} {x:List PV} (hi:i≠2) (h:g.rows[i]?=some (.tup (.int k::x))) (hk:k≠6) (hx:x.length≤10):AA (n+1) (.fn 13) [.tab,.imm (.int i)] g=some (.imm (.tup [.int i]),g):=by
 refine AX rfl rfl (by decide) ?_
 refine DH (AK (x:=.imm (.int i)) (y:=.imm (.int 2)) rfl rfl (Ak (decide_eq_false (by omega)))) ?_
 refine DU rfl (w:=.imm (.tup (.int k::x))) (Af rfl rfl rfl (Az h)) ?_
 refine DH (AK (x:=.imm (.int k)) (y:=.imm (.int 6)) (Af rfl rfl rfl (C9 (i:=0) (by simp;omega) rfl)) rfl (Ak (decide_eq_false hk))) ?_
 exact Ec rfl
theorem N6 {n:Nat} {g:G} {i:Nat} {l:List PV} (hi:i≠2) (h:g.rows[i]?=some (.tup [.int 6,.tup l])):AA (n+1) (.fn 13) [.tab,.imm (.int i)] g=some (.imm (.tup l),g):=by
 refine AX rfl rfl (by decide) ?_
 refine DH (AK (x:=.imm (.int i)) (y:=.imm (.int 2)) rfl rfl (Ak (decide_eq_false (by omega)))) ?_
 refine DU rfl (w:=.imm (.tup [.int 6,.tup l])) (Af rfl rfl rfl (Az h)) ?_
 refine RA (AK (x:=.imm (.int 6)) rfl rfl (z:=true) rfl) ?_
 exact Ec rfl
theorem Dd {n m:Nat} {g:G} (gk:GK m g) {t:Int} {K:Kn} (h:Kd g t K):AA (n+1) (.fn 13) [.tab,.imm (.int t)] g=some (.imm (.tup ((toS K).map .int)),g):=by
 refine Or.elim (h.rep) (fun z1=>oA z1 fun e1 e2=>?_) fun z3=>Or.elim z3 (fun e1=>?_) fun z2=>oAEA z2 fun e1 i e2 e3=>?_
 ·rw [e1,e2];rfl
 ·have ha:t∈AI:=(Ae.mp (by rw [e1];exact .head _)).1
  refine oEEAAA (Da t ha) fun k x h1 h2 h3 h4=>?_
  have:t=(t.toNat:Int):=by omega
  rw [e1,this]
  refine EV ?_ (gk.row h1) h2 h4
  intro e
  have:t=2:=by omega
  rw [this] at ha
  exact absurd ha (by decide)
 ·rw [e2]
  refine N6 ?_ e3
  intro e
  subst e
  rw [gk.row Ey] at e3
  simp [EM] at e3
section
variable {body:VL→G→VR} {t:PT} {σ σ1 σ2:VL} {g g2:G} {x:VV} {xs:List VV} {y:VR} {v:VV}
theorem BA:AU body t [] σ g=some (.next,σ,g):=rfl
theorem Ab (hb:B3 t x σ=some σ1) (h:body σ1 g=some (.next,σ2,g2)) (q:AU body t xs σ2 g2=y):AU body t (x::xs) σ g=y:=AJ hb (AJ h q)
theorem KZ (hb:B3 t x σ=some σ1) (h:body σ1 g=some (.ret v,σ2,g2)):AU body t (x::xs) σ g=some (.ret v,σ2,g2):=AJ hb (AJ h rfl)
theorem AAW {C:VC} {c:PE} {ls:List Nat} {k:Nat} (hσ:fz ls σ=σ) (h:VT C c (VE C c) σ g=some (false,g2)):CO (VT C c (VE C c)) ls body (k+1) σ g=some (.next,σ,g2):=by
 show ((VT C c (VE C c)) (fz ls σ) g).bind _=_
 rw [hσ];exact AJ h rfl
theorem AAV {C:VC} {c:PE} {ls:List Nat} {k:Nat} {g1:G} (hσ:fz ls σ=σ) (h:VT C c (VE C c) σ g=some (true,g1)) (hb:body σ g1=some (.next,σ1,g2)) (q:CO (VT C c (VE C c)) ls body k σ1 g2=y):CO (VT C c (VE C c)) ls body (k+1) σ g=y:=by
 show ((VT C c (VE C c)) (fz ls σ) g).bind _=_
 rw [hσ];exact AJ h (AJ hb q)
theorem Pi {C:VC} {σ0:VL} {g1:G} {i:Nat} {op:Operator} {e:PE} {u y z:Int} (hσ:fz (locs e) σ=σ0) (hi:σ0[i]?=some (sv (.imm (.int u)))) (he:VE C e σ0 g=some (.imm (.int y),g1)) (ho:intOp op u y=some z):VX C (.aug i op e) σ g=some (.next,σ0.set i (sv (.imm (.int z))),g1):=by
 subst hσ;exact AJ (Pu hi) (AJ he (Bz ho))
theorem UH {C:VC} {e i:PE} {o k v:VV} {g1:G} (hp:peek σ e=some o) (hi:VE C i σ g=some (k,g1)) (hs:GG g1 o k=some v):VE C (.sub e i) σ g=some (v,g1):=orS hp (AJ hi (Bz hs))
end
noncomputable abbrev keys (D:List (Int×Int)):List Int:=D.map (·.1)
theorem Ls {a:Int} {D:List (Int×Int)} {z:Bool} (h:decide (a∈keys D)=z):EP .In (.imm (.int a)) (.dct D)=some z:=by show some (decide _)=_;rw [h]
theorem UQ {a:Int} {D:List (Int×Int)} {z:Bool} (h:(!decide (a∈keys D))=z):EP .NotIn (.imm (.int a)) (.dct D)=some z:=by show some (!decide _)=_;rw [h]
theorem SS {C:VC} {g:G} {a:Int} {D:List (Int×Int)} :
  Bv C [.ite (.cmp .In (.loc 1) (.loc 0)) [.ret (.loc 1)] []] [sv (.dct D),sv (.imm (.int a))] g=if a∈keys D then some (.ret (.imm (.int a)),[sv (.dct D),sv (.imm (.int a))],g) else some (.next,[sv (.dct D),sv (.imm (.int a))],g):=by
 by_cases h:a∈keys D
 ·rw [if_pos h]
  exact ES (Ag (σ0:=[sv (.dct D),sv (.imm (.int a))]) (b:=true) rfl (AK (x:=.imm (.int a)) (y:=.dct D) rfl rfl (Ls (decide_eq_true h))) (ES (Bz rfl)))
 ·rw [if_neg h]
  exact AD (U3 (b:=false) (AK (x:=.imm (.int a)) (y:=.dct D) rfl rfl (Ls (decide_eq_false h))) AG) AG
theorem Pk {n:Nat} {g:G} {D:List (Int×Int)}:AA (n+1) (.fn 18) [.dct D] g=some (.imm (.int (if 0∈keys D then 0 else if 13∈keys D then 13 else if 1∈keys D then 1 else -1)),g):=by
 refine AX rfl rfl (by decide) ?_
 have st:=fun (a:Int)=>SS (C:=AA n) (g:=g) (a:=a) (D:=D)
 by_cases h0:0∈keys D
 ·rw [if_pos h0]
  exact IB (its:=[.imm (.int 0),.imm (.int 13),.imm (.int 1)]) rfl rfl (KZ rfl ((st 0).trans (if_pos h0)))
 ·rw [if_neg h0]
  by_cases h1:13∈keys D
  ·rw [if_pos h1]
   exact IB (its:=[.imm (.int 0),.imm (.int 13),.imm (.int 1)]) rfl rfl (Ab rfl ((st 0).trans (if_neg h0)) (KZ rfl ((st 13).trans (if_pos h1))))
  ·rw [if_neg h1]
   by_cases h2:1∈keys D
   ·rw [if_pos h2]
    exact IB (its:=[.imm (.int 0),.imm (.int 13),.imm (.int 1)]) rfl rfl (Ab rfl ((st 0).trans (if_neg h0)) (Ab rfl ((st 13).trans (if_neg h1)) (KZ rfl ((st 1).trans (if_pos h2)))))
   ·rw [if_neg h2]
    exact OQ (its:=[.imm (.int 0),.imm (.int 13),.imm (.int 1)]) rfl rfl (Ab rfl ((st 0).trans (if_neg h0)) (Ab rfl ((st 13).trans (if_neg h1)) (Ab rfl ((st 1).trans (if_neg h2)) BA))) (Ec rfl)
noncomputable def whole (a:Int):Int:=if a=16∨a=17 then 6 else if a=18 then 7 else -1
theorem GK.form {m:Nat} {g:G} (gk:GK m g):∃ r,g=⟨Aa++r,g.pos,g.scr,g.np⟩:=by
 refine oE (gk.base) fun r hr=>?_
 exact ⟨r,by rw [←hr]⟩
theorem XR {n m:Nat} {g:G} (gk:GK m g):∀ a∈AI,AA (n+1) (.fn 15) [.tab,.imm (.int a)] g=some (.imm (.int (-1)),g):=by
 refine oE (gk.form) fun r hg=>?_
 rw [hg]
 simp only [AI,List.forall_mem_cons,List.not_mem_nil,false_implies,implies_true,and_true]
 refine ⟨?_,?_,?_,?_,?_,?_,?_,?_,?_,?_,?_,?_⟩<;>kernel_rfl
theorem U6 {n m:Nat} {g:G} (gk:GK m g):∀ a∈AI,∃ row,g.rows[a.toNat]?=some row∧0≤a∧AA (n+1) (.fn 14) [.imm row] g=some (.imm (.int (whole a)),g):=by
 refine oE (gk.form) fun r hg=>?_
 rw [hg]
 simp only [AI,List.forall_mem_cons,List.not_mem_nil,false_implies,implies_true,and_true]
 refine ⟨?_,?_,?_,?_,?_,?_,?_,?_,?_,?_,?_,?_⟩<;>exact ⟨_,rfl,by decide,by kernel_rfl⟩
theorem VF {n m:Nat} {g:G} (gk:GK m g) {D:List (Int×Int)} (hD:-1∉keys D) {a:Int} (ha:a∈AI):AA (n+2) (.fn 17) [.tab,.dct D,.imm (.int a)] g=some (.imm (.bool (!decide (whole a∈keys D))),g):=by
 obtain ⟨row,h1,h2,h3⟩:=U6 (n:=n) gk a ha
 refine AX rfl rfl (by decide) ?_
 refine DH (AK (x:=.imm (.int (-1))) (y:=.dct D) (AH rfl rfl rfl (XR gk a ha)) rfl (Ls (decide_eq_false hD))) ?_
 have ea:VE (AA (n+1)) (.sub (.attr (.loc 0) 4) (.loc 2)) [sv .tab,sv (.dct D),sv (.imm (.int a))] g=some (.imm row,g):=by
  refine Af rfl rfl (k:=.imm (.int a.toNat)) ?_ (Az h1)
  rw [show ((a.toNat:Nat):Int)=a by omega];rfl
 exact Ec (CM (x:=.imm (.int (whole a))) (y:=.dct D) (AH rfl rfl (AB ea AR) h3) rfl (UQ rfl))
inductive Ks (g:G):List Int→List Kn→Prop
 | nil:Ks g [] []
 | cons {t K ts Kl}:Kd g t K→Ks g ts Kl→Ks g (t::ts) (K::Kl)
theorem Ks.ext {g g':G} (e:C3 g g') {ts:List Int} {Kl:List Kn} (h:Ks g ts Kl):Ks g' ts Kl:=by
 induction h with
 | nil=>exact .nil
 | cons a _ ih=>exact .cons (a.ext e) ih
noncomputable abbrev vi (t:Int):VV:=.imm (.int t)
theorem GM {D:List (Int×Int)} {k v a:Int}:a∈keys (putD D k v)↔a∈keys D∨a=k:=by
 unfold putD
 split
 ·rename_i h
  have:keys (D.map fun p=>if p.1=k then (p.1,v) else p)=keys D:=by
   simp only [keys,List.map_map]
   refine List.map_congr_left fun p _=>?_
   show (if p.1=k then (p.1,v) else p).1=p.1
   split<;>rfl
  rw [this]
  exact ⟨.inl,fun h'=>h'.elim id fun e=>e▸h⟩
 ·simp [keys]
theorem IC {D:List (Int×Int)} {k v:Int} (h:(keys D).Nodup):(keys (putD D k v)).Nodup:=by
 unfold putD
 split
 ·have:keys (D.map fun p=>if p.1=k then (p.1,v) else p)=keys D:=by
   simp only [keys,List.map_map]
   refine List.map_congr_left fun p _=>?_
   show (if p.1=k then (p.1,v) else p).1=p.1
   split<;>rfl
  rw [this];exact h
 ·rename_i hk
  have:keys (D++[(k,v)])=keys D++[k]:=by simp [keys]
  rw [this]
  exact List.nodup_append.mpr ⟨h,by simp,fun a ha b hb=>by simp at hb;subst hb;exact fun e=>hk (e▸ha)⟩
theorem RH {l l':List Int} (nd:l.Nodup) (h:∀ x∈l,x∈l'):l.length≤l'.length:=by
 induction l generalizing l' with
 | nil=>simp
 | cons a l ih =>
  rw [List.nodup_cons] at nd
  have ha:=h a (.head _)
  have:=ih nd.2 (l':=l'.erase a) fun x hx=>(List.mem_erase_of_ne (fun e=>nd.1 (by rw [←e];exact hx))).mpr (h x (.tail _ hx))
  rw [List.length_erase_of_mem ha] at this
  have:0<l'.length:=List.length_pos_of_mem ha
  simp only [List.length_cons];omega
structure Got (D:List (Int×Int)) (K:Kn):Prop where
 nd:(keys D).Nodup
 mem:∀ a,a∈keys D↔a∈AI∧K a=true
theorem Got.len {D:List (Int×Int)} {K:Kn} (h:Got D K):D.length≤12:=by
 have:=RH h.nd (l':=AI) fun x hx=>((h.mem x).mp hx).1
 simpa [keys,AI] using this
noncomputable def VO (w:VV) (D:List (Int×Int)) (a b:Option VS):VL:=[sv .tab,sv w,some (.ownD D),a,none,none,b,none]
theorem HS {C:VC} {g:G} {w:VV} {a:Option VS}:∀ (S:List Int) (D:List (Int×Int)) (b:Option VS) (K:Kn),Got D K→(∀ x∈S,x∈AI) →
  ∃ D' b',AU (Bv C [.store (.loc 2) (.loc 6) (.int 1)]) (.one 6) (S.map vi) (VO w D a b) g=some (.next,VO w D' a b',g)∧Got D' (fun x=>K x||decide (x∈S))
 | [],D,b,K,hD,_=>⟨D,b,BA,hD.nd,fun x=>by simp [hD.mem x]⟩
 | x::S,D,b,K,hD,hS=>by
  have hD1:Got (putD D x 1) (fun y=>K y||decide (y=x)):=⟨IC hD.nd,fun y=>by
   rw [GM,hD.mem y]
   constructor
   ·rintro (h | h)
    ·exact ⟨h.1,by simp [h.2]⟩
    ·exact ⟨h▸hS x (.head _),by simp [h]⟩
   ·refine fun z0=>oA z0 fun h1 h2=>?_
    simp at h2
    exact h2.imp (fun h=>⟨h1,h⟩) id⟩
  obtain ⟨D',b',h1,h2⟩:=HS S (putD D x 1) (sv (vi x)) _ hD1 fun y hy=>hS y (.tail _ hy)
  refine ⟨D',b',Ab (σ1:=VO w D a (sv (vi x))) rfl (AD (σ1:=VO w (putD D x 1) a (sv (vi x))) (g1:=g) ?_ AG) h1,h2.nd,fun y=>?_⟩
  ·show (if D.length≤100000 then _ else _)=_
   rw [if_pos (by have:=hD.len;omega)];rfl
  ·rw [h2.mem y]
   simp [Bool.or_assoc]
theorem MQ {n m:Nat} {g:G} {w:VV} (gk:GK m g) (ts:List Int) (Kl:List Kn) (D:List (Int×Int)) (a b:Option VS) (K:Kn) (hK:Ks g ts Kl):Got D K →
  ∃ D' a' b',AU (Bv (AA (n+1)) [.loop (.one 6) (.call (.gl 38) [.loc 0,.loc 3]) [.store (.loc 2) (.loc 6) (.int 1)]]) (.one 3) (ts.map vi) (VO w D a b) g=some (.next,VO w D' a' b',g)∧Got D' (fun x=>K x||BS Kl x):=by
 induction hK generalizing D a b K with
 | nil=>exact fun hD=>⟨D,a,b,BA,hD.nd,fun x=>by simp [hD.mem x,BS]⟩
 | @cons t L ts Kl ht hts ih =>
  intro hD
  refine oEEA (HS (C:=AA (n+1)) (g:=g) (w:=w) (a:=sv (vi t)) (toS L) D b K hD fun x hx=>(Ae.mp hx).1) fun D1 b1 h1 h2=>?_
  refine oEEEA (ih D1 (sv (vi t)) b1 _ h2) fun D2 a2 b2 h3 h4=>?_
  refine ⟨D2,a2,b2,Ab (σ1:=VO w D (sv (vi t)) b) rfl (AD ?_ AG) h3,h4.nd,fun x=>?_⟩
  ·refine AJ (AH (i:=13) (vs:=[.tab,vi t]) rfl rfl rfl (Dd gk ht)) (AJ (a:=(toS L).map vi) ?_ h1)
   show some (((toS L).map PV.int).map VV.imm)=_
   rw [List.map_map];rfl
  ·rw [h4.mem x]
   simp only [BS,List.any_cons]
   by_cases hx:x∈AI
   ·have:decide (x∈toS L)=L x:=by
     rw [Bool.eq_iff_iff];simp [Ae,hx]
    rw [this,Bool.or_assoc]
   ·simp [hx]
theorem Q1 {a b:List Int} (ha:a.Pairwise (·<·)) (hb:b.Pairwise (·<·)) (h:∀ x,x∈a↔x∈b):a=b:=by
 have p:a.Perm b:=(List.perm_ext_iff_of_nodup (ha.imp fun h=>Int.ne_of_lt h) (hb.imp fun h=>Int.ne_of_lt h)).mpr h
 exact List.Perm.eq_of_pairwise (fun x y _ _ h1 h2=>absurd h1 (by omega)) ha hb p
theorem Ul:AI.Pairwise (·<·):=by decide
theorem Xf (K:Kn):(toS K).Pairwise (·<·):=Ul.sublist List.filter_sublist
theorem Got.sorted {D:List (Int×Int)} {K:Kn} (h:Got D K):sortI (keys D)=toS K:=by
 refine Q1 ?_ (Xf K) fun x=>?_
 ·have h1:=Di (keys D)
  have h2:(sortI (keys D)).Nodup:=(sortI_perm _).symm.nodup h.nd
  exact (h1.and h2).imp fun h=>by obtain ⟨h1,h2⟩:=h;omega
 ·rw [(sortI_perm _).mem_iff,h.mem x,Ae]
theorem Got.join {D:List (Int×Int)} {K:Kn} (h:Got D K):Got (CT D) K:=by
 unfold CT
 split
 ·rename_i hc
  have n14:14∉keys D:=fun hm=>absurd ((h.mem 14).mp hm).1 (by decide)
  have n15:15∉keys D:=fun hm=>absurd ((h.mem 15).mp hm).1 (by decide)
  have h8:=hc.1.resolve_right n14
  have h9:=hc.2.resolve_right n15
  refine ⟨IC (IC h.nd),fun a=>?_⟩
  rw [GM,GM,←h.mem a]
  constructor
  ·rintro ((h1 | rfl) | rfl)
   ·exact h1
   ·exact h8
   ·exact h9
  ·exact fun h1=>.inl (.inl h1)
 ·exact h
inductive Rs (c:Option (VV×G)) (g:G) (m:Nat) (P:Int→G→Prop):Prop
 | mk (t:Int) (g':G) (h1:c=some (vi t,g')) (h2:C3 g g') (h3:GK m g') (h4:P t g'):Rs c g m P
theorem F6 (l:List PV):F7 (l.map VV.imm)=some l:=by
 induction l with
 | nil=>rfl
 | cons p l ih=>exact Bz ih
theorem KU (l:List PV):mkTup (l.map VV.imm)=.imm (.tup l):=by unfold mkTup;rw [F6]
theorem JB (l:List Int):l.map vi=(l.map PV.int).map VV.imm:=by rw [List.map_map];rfl
theorem FI (l:List Int):FY (l.map PV.int)=some l:=by
 induction l with
 | nil=>rfl
 | cons p l ih=>exact Bz ih
theorem CC (l:List Int):Cz (l.map vi)=some l:=by unfold Cz;rw [JB,F6,Option.bind_some,FI]
theorem OY {K:Kn} {a:Int} (h:K 0=true):By K a=(a==0):=if_pos h
theorem Ms {K:Kn} {a:Int} (h0:K 0=false) (h:K 1=true):By K a=(a==1):=(if_neg (by rw [h0];exact Bool.noConfusion)).trans (if_pos h)
theorem EN {K:Kn} {a:Int} (h0:K 0=false) (h:K 1=false):By K a=(K a&&!((a==16||a==17)&&K 6)&&!(a==18&&K 7)):=(if_neg (by rw [h0];exact Bool.noConfusion)).trans (if_neg (by rw [h];exact Bool.noConfusion))
theorem SV {K:Kn} (h:K 0=true):toS (By K)=[0] :=
 (G5 (L:=fun a=>a==0) fun a _=>OY h).trans (by decide)
theorem SU {K:Kn} (h0:K 0=false) (h:K 1=true):toS (By K)=[1] :=
 (G5 (L:=fun a=>a==1) fun a _=>Ms h0 h).trans (by decide)
theorem Z0:∀ {m p q r s t:Bool},(p=true→s=true→m=false)→(q=true→s=true→m=false)→(r=true→t=true→m=false)→(m&&!((p||q)&&s)&&!(r&&t))=m:=by decide
theorem TX {M:Kn} (h0:M 0=false) (h1:M 1=false) (h6:M 6=true→M 16=false∧M 17=false) (h7:M 7=true→M 18=false) (c:Int):By M c=M c :=
 (EN h0 h1).trans (Z0 (fun e k=>beq_iff_eq.mp e▸(h6 k).1) (fun e k=>beq_iff_eq.mp e▸(h6 k).2) fun e k=>beq_iff_eq.mp e▸h7 k)
theorem b_3:∀ {a b c:Bool},(a&&b&&c)=true→a=true:=by decide
theorem Z1:∀ {a b c:Bool},a=false→(a&&b&&c)=false:=by decide
theorem Z2:∀ {a k x:Bool},k=true→(a&&!(true&&k)&&x)=false:=by decide
theorem ABH:∀ {a k x:Bool},k=true→(a&&x&&!(true&&k))=false:=by decide
theorem FB (K:Kn):∀ a∈AI,By (By K) a=By K a:=by
 intro a ha
 cases h0:K 0 with
 | true=>exact (OY (OY h0)).trans (OY h0).symm
 | false =>
  cases h1:K 1 with
  | true=>exact (Ms (Ms h0 h1) (Ms h0 h1)).trans (Ms h0 h1).symm
  | false=>exact TX ((EN h0 h1).trans (Z1 h0)) ((EN h0 h1).trans (Z1 h1)) (fun h=>⟨(EN h0 h1).trans (Z2 (b_3 ((EN h0 h1).symm.trans h))),(EN h0 h1).trans (Z2 (b_3 ((EN h0 h1).symm.trans h)))⟩) (fun h=>(EN h0 h1).trans (ABH (b_3 ((EN h0 h1).symm.trans h)))) a
theorem Rz:∀ a∈AI,(decide (whole a∈AI)=true∧(whole a=6∧(a==16||a==17)=true∧(a==18)=false∨whole a=7∧(a==16||a==17)=false∧(a==18)=true))∨(decide (whole a∈AI)=false∧(a==16||a==17)=false∧(a==18)=false):=by decide
theorem Ln {K:Kn} {D:List (Int×Int)} (hD:Got D K) (h0:K 0=false) (h1:K 1=false):(toS K).filter (fun a=>!decide (whole a∈keys D))=toS (By K):=by
 unfold toS
 rw [List.filter_filter]
 refine List.filter_congr fun a ha=>?_
 have mm:∀ w,decide (w∈keys D)=(decide (w∈AI)&&K w):=fun w=>by
  rw [Bool.eq_iff_iff,Bool.and_eq_true,decide_eq_true_iff,decide_eq_true_iff];exact hD.mem w
 rw [EN h0 h1,mm]
 have b:∀ x y z:Bool,(!(true&&x)&&y)=(y&&!(true&&x)&&!(false&&z))∧(!(true&&x)&&y)=(y&&!(false&&z)&&!(true&&x))∧(!(false&&x)&&y)=(y&&!(false&&z)&&!(false&&x)):=by decide
 rcases Rz a ha with ⟨e,⟨e1,e2,e3⟩ | ⟨e1,e2,e3⟩⟩ | ⟨e,e2,e3⟩
 ·rw [e,e1,e2,e3];exact (b _ _ _).1
 ·rw [e,e1,e2,e3];exact (b _ _ _).2.1
 ·rw [e,e2,e3];exact (b _ _ _).2.2
theorem OB (S:List Int):(EM S).plain=true:=by
 exact Fh (BL rfl (BL (Fh (Bj S 4)) rfl))
theorem E3 {n m:Nat} {g:G} {w:VV} {ts:List Int} {Kl:List Kn} (gk:GK m g) (hm:m≤1000) (hw:Bs w=some (ts.map vi)) (hk:Ks g ts Kl) :
  Rs (AA (n+3) (.fn 19) [.tab,w] g) g m fun t g'=>Kd g' t (By (BS Kl)):=by
 refine oEEEA (MQ (n:=n+1) (w:=w) gk ts Kl [] none none (fun _=>false) hk ⟨by simp [keys],fun a=>by simp [keys]⟩) fun D a b h1 hD=>?_
 simp only [Bool.false_or] at hD
 have hD:Got D (BS Kl):=hD
 generalize hK:BS Kl=K at hD
 have n13:13∉keys D:=fun hm=>absurd ((hD.mem 13).mp hm).1 (by decide)
 have start:∀ t g',Rt (AA (n+2)) (Gp.body.drop 2) (VO w D a b) g (vi t) g'→AA (n+3) (.fn 19) [.tab,w] g=some (vi t,g'):=fun t g' h=>by
  refine AX rfl rfl (by decide) (Av (σ1:=VO w [] none none) rfl ?_)
  exact OQ (w:=w) rfl hw h1 h
 cases h0:K 0 with
 | true =>
  have k0:0∈keys D:=(hD.mem 0).mpr ⟨by decide,h0⟩
  refine ⟨0,g,start _ _ ?_,.refl,gk,FB K,.inr (.inl (SV h0))⟩
  refine DU rfl (w:=vi 0) (PI rfl rfl (x:=(vi 0,g)) (by rw [Pk,if_pos k0]) rfl) ?_
  exact RA (AK (x:=vi 0) (y:=vi 0) rfl rfl rfl) (Ec rfl)
 | false =>
  have k0:0∉keys D:=fun h=>by rw [((hD.mem 0).mp h).2] at h0;exact nT h0
  cases h1':K 1 with
  | true =>
   have k1:1∈keys D:=(hD.mem 1).mpr ⟨by decide,h1'⟩
   refine ⟨1,g,start _ _ ?_,.refl,gk,FB K,.inr (.inl (SU h0 h1'))⟩
   refine DU rfl (w:=vi 1) (PI rfl rfl (x:=(vi 1,g)) (by rw [Pk,if_neg k0,if_neg n13,if_pos k1]) rfl) ?_
   exact RA (AK (x:=vi 1) (y:=vi 0) rfl rfl rfl) (Ec rfl)
  | false =>
   have k1:1∉keys D:=fun h=>by rw [((hD.mem 1).mp h).2] at h1';exact nT h1'
   have hJ:=hD.join
   have hlen:=hD.len
   have hlen':=hJ.len
   have nn1:-1∉keys (CT D):=fun hm=>absurd ((hJ.mem (-1)).mp hm).1 (by decide)
   have start2:∀ t g',Rt (AA (n+2)) (Gp.body.drop 6) [sv .tab,sv w,sv (.dct (CT D)),a,sv (vi (-1)),sv (.lst ((toS (By K)).map vi)),b,none] g (vi t) g'→AA (n+3) (.fn 19) [.tab,w] g=some (vi t,g'):=fun t g' h=>by
    refine start _ _ ?_
    refine DU rfl (w:=vi (-1)) (PI rfl rfl (x:=(vi (-1),g)) (by rw [Pk,if_neg k0,if_neg n13,if_neg k1]) rfl) ?_
    refine DH (AK (x:=vi (-1)) (y:=vi 0) rfl rfl rfl) ?_
    refine Av (σ1:=[sv .tab,sv w,some (.ownD (CT D)),a,sv (vi (-1)),none,b,none]) (g1:=g) ?_ ?_
    ·show (if D.length≤1000 then (AA (n+2) (.fn 18) [.dct D] g).bind fun _=>_ else _)=_
     rw [if_pos (by omega),Pk];rfl
    ·refine DU rfl (w:=.lst ((toS (By K)).map vi)) (BO (w:=.lst ((toS K).map vi)) (its:=(toS K).map vi) (BH rfl rfl (vs:=[.dct (CT D)]) rfl ?_) rfl ?_) h
     ·show (if (CT D).length<64 then some (VV.lst ((sortI (keys (CT D))).map vi)) else none)=_
      rw [if_pos (by omega),hJ.sorted]
     ·rw [←Ln hJ h0 h1']
      refine Bl (fun a=>!decide (whole a∈keys (CT D))) vi vi (toS K) [] ?_ fun x hx=>?_
      ·have:=List.length_filter_le K AI
       have:AI.length=12:=rfl
       simp only [toS,List.length_nil];omega
      ·refine ⟨_,rfl,Jp rfl (AH rfl rfl (vs:=[.tab,.dct (CT D),vi x]) rfl (VF gk nn1 (Ae.mp hx).1)) rfl,fun _=>rfl⟩
   have hl12:(toS (By K)).length≤12:=List.length_filter_le _ _
   match hS:toS (By K),hl12 with
   | [],_ =>
    rw [hS] at start2
    refine ⟨2,g,start2 _ _ ?_,.refl,gk,FB K,.inl ⟨hS,rfl⟩⟩
    exact RA (Jp rfl (Zj (w:=.lst []) (b:=false) rfl rfl) rfl) (Ec rfl)
   | [t],_ =>
    rw [hS] at start2
    refine ⟨t,g,start2 _ _ ?_,.refl,gk,FB K,.inr (.inl hS)⟩
    refine DH (v_not (b:=true) rfl) ?_
    refine RA (AK (x:=vi 1) (y:=vi 1) rfl rfl rfl) (Ec rfl)
   | t1::t2::l,hl =>
    rw [hS] at start2
    refine oEEAAAAA (GJ gk hm (r:=EM (t1::t2::l)) rfl (OB _) fun _=>⟨By K,by rw [hS]⟩) fun i g' p1 p2 p3 p4 p5 p6=>?_
    refine ⟨i,g',start2 _ _ ?_,p3,p5 rfl,FB K,.inr (.inr ⟨by rw [hS];simp,i,rfl,by rw [hS];exact p2⟩)⟩
    have tl:Ch (.lst ((t1::t2::l).map vi))=some true:=by
     show (if _ then _ else _)=_
     rw [if_pos (by simp only [List.length_map];omega)];rfl
    have bl:L7 .len [.lst ((t1::t2::l).map vi)]=some (vi ((t1::t2::l).length:Nat)):=by
     show (if _ then _ else _)=_
     rw [if_pos (by simp only [List.length_map];omega),List.length_map]
    refine DH (v_not (b:=true) (Jp rfl rfl tl)) ?_
    refine DH (AK (y:=vi 1) (BH rfl rfl (vs:=[.lst ((t1::t2::l).map vi)]) rfl bl) rfl (Ak (decide_eq_false (by simp only [List.length_cons];omega)))) ?_
    refine DH (AK (y:=vi 400) (BH rfl rfl (vs:=[.lst ((t1::t2::l).map vi)]) rfl bl) rfl (cmp_gt (decide_eq_false (by omega)))) ?_
    refine Ec (Fv (b:=.tab) (vs:=[.imm (EM (t1::t2::l))]) rfl (AB (v:=.imm (EM (t1::t2::l))) (CL (vs:=[vi 6,.imm (.tup ((t1::t2::l).map .int))]) (AB rfl (AB (BH rfl rfl (vs:=[.lst ((t1::t2::l).map vi)]) rfl ?_) AR))) AR) p1)
    show (if _ then _ else _)=_
    rw [if_pos (by simp only [List.length_map];omega),JB,KU]
noncomputable def YZ (K:Kn):Kn:=By fun a=>K a||a==4
theorem kd4 {g:G}:Kd g 4 (fun a=>a==4):=⟨by decide,.inr (.inl (by decide))⟩
theorem v_add {n m:Nat} {g:G} {t:Int} {K:Kn} (gk:GK m g) (hm:m≤1000) (h:Kd g t K):Rs (AA (n+4) (.fn 21) [.tab,vi t] g) g m fun t' g'=>Kd g' t' (YZ K):=by
 obtain ⟨t',g',h1,h2,h3,h4⟩:=E3 (n:=n) (w:=.imm (.tup [.int t,.int 4])) (ts:=[t,4]) gk hm rfl (.cons h (.cons kd4 .nil))
 refine ⟨t',g',AX rfl rfl (by decide) (Ec (AH rfl rfl (vs:=[.tab,.imm (.tup [.int t,.int 4])]) rfl h1)),h2,h3,h4.congr fun a ha=>?_⟩
 exact DY (fun b hb=>by simp [BS]) a ha
theorem Lr {a:Int} {l:List Int} {z:Bool} (h:decide (a∈l)=z):EP .In (.imm (.int a)) (.imm (.tup (l.map .int)))=some z:=by
 show (FY (l.map PV.int)).map _=_
 rw [FI,Option.map_some,h]
theorem PW (l:List Bool):Ly (l.map PV.bool)=some l:=by
 induction l with
 | nil=>rfl
 | cons p l ih=>exact Bz ih
noncomputable abbrev vb (b:Bool):VV:=.imm (.bool b)
theorem Pb (l:List Bool):IL (l.map vb)=some l:=by
 have:l.map vb=(l.map PV.bool).map VV.imm:=by rw [List.map_map];rfl
 unfold IL;rw [this,F6,Option.bind_some,PW]
theorem YV (l:List Bool) (h:l.length≤100000):L7 .all [.lst (l.map vb)]=some (vb (l.all id)):=by
 exact AJ (Pb l) (if_pos h)
theorem HM {l:List VV} (h:l.length≤100000):L7 .len [.lst l]=some (vi (l.length:Nat)):=if_pos h
theorem L6 {l:List PV} (h:l.length≤100000):L7 .len [.imm (.tup l)]=some (vi (l.length:Nat)):=if_pos h
theorem Ex {l:List PV} (h:l.length≤100000):L7 .tuple [.lst (l.map VV.imm)]=some (.imm (.tup l)):=by
 rw [←KU]
 exact if_pos (by rw [List.length_map];exact h)
theorem PZ {l:List Int} (h0:l≠[]) (h:l.length≤100000):L7 .max [.lst (l.map vi)]=some (vi (FM l)):=by
 exact AJ (CC l) (if_pos ⟨h0,h⟩)
theorem v_has {n m:Nat} {g:G} {t:Int} {K:Kn} (gk:GK m g) (h:Kd g t K):AA (n+2) (.fn 20) [.tab,vi t,vi 4] g=some (.imm (.bool (K 4)),g):=by
 have hc:decide ((4:Int)∈toS K)=K 4:=by rw [Bool.eq_iff_iff];simp [Ae,AI]
 have hb:L7 .all [.lst [vb (K 4)]]=some (vb (K 4)):=by simpa using YV [K 4] (by simp)
 refine AX (σ:=[sv .tab,sv (vi t),sv (vi 4),none,none]) rfl rfl (by decide) ?_
 refine AF (AE rfl) DP (AH rfl rfl (vs:=[.tab,vi t]) rfl (Dd gk h)) ?_
 refine AS (AE rfl) (BH rfl rfl (vs:=[.lst [vb (K 4)]]) (AB (BO (w:=.imm (.tup [.int 4])) (its:=[vi 4]) (AH rfl rfl (vs:=[.tab,vi 4]) rfl (Dd gk (kd4 (g:=g)))) rfl ?_) AR) hb)
 refine Bl (fun _=>true) (fun _=>vb (K 4)) vi [4] [] (by decide) fun x hx=>⟨_,rfl,rfl,fun _=>?_⟩
 simp at hx;subst hx
 exact CM (x:=vi 4) (y:=.imm (.tup ((toS K).map .int))) rfl rfl (Lr hc)
noncomputable def EQ:List Int:=[3,4,5,6,7,8,9,16,17,18]
noncomputable def tp (c:Int):Int:=if c=4 then 3 else if c=16∨c=17 then 6 else if c=18 then 7 else c
noncomputable def mt (a b:Int):Int:=if a=b∨tp b=a then b else if tp a=b then a else 2
theorem SC {n m:Nat} {g:G} (gk:GK m g):∀ a∈EQ,∀ b∈EQ,AA (n+8) (.fn 31) [.tab,vi a,vi b] g=some (vi (mt a b),g):=by
 refine oE (gk.form) fun r hg=>?_
 rw [hg]
 generalize g.pos=p
 generalize g.scr=s
 generalize g.np=k
 have h:EQ.map (fun a=>EQ.map fun b=>AA (n+8) (.fn 31) [.tab,vi a,vi b] ⟨Aa++r,p,s,k⟩)=EQ.map (fun a=>EQ.map fun b=>some (vi (mt a b),⟨Aa++r,p,s,k⟩)):=by kernel_rfl
 intro a ha b hb
 exact List.map_inj_left.mp (List.map_inj_left.mp h a ha) b hb
noncomputable def EJ (K L:Kn):Kn:=fun c=>if K 1 then L c else if L 1 then K c else (c != 0&&c != 1)&&((K c&&(L c||L (tp c)))||(K (tp c)&&L c))
noncomputable def M5 (a:Int) (S:List Int):Kn:=fun x=>S.any fun b=>mt a b==x&&x != 2
noncomputable def N2 (s t:Int) (D:List (Int×Int)) (x:Bool) (l r:List PV) (a b c:Option VS):VL :=
 [sv .tab,sv (vi s),sv (vi t),some (.ownD D),sv (.imm (.bool x)),a,sv (.imm (.tup l)),sv (.imm (.tup r)),b,c]
theorem X3:∀ a∈EQ,∀ b∈EQ,mt a b≠2→mt a b∈AI:=by decide
theorem Fi {n m:Nat} {g:G} (gk:GK m g) {s t a:Int} {x:Bool} {l r:List PV} (ha:a∈EQ):∀ (S:List Int) (D:List (Int×Int)) (b c:Option VS) (K:Kn),Got D K→(∀ y∈S,y∈EQ) →
  ∃ D' b' c',AU (Bv (AA (n+8)) [.assign 9 (.call (.gl 78) [.loc 0,.loc 5,.loc 8]),.ite (.cmp .NotEq (.loc 9) (.gl 22)) [.store (.loc 3) (.loc 9) (.int 1)] [],.ite (.bop .And [.loc 4,.cmp .Gt (.call (.gl 1) [.loc 3]) (.gl 79)]) [.stuck] []]) (.one 8) (S.map vi) (N2 s t D x l r (sv (vi a)) b c) g
   = some (.next,N2 s t D' x l r (sv (vi a)) b' c',g)∧Got D' (fun y=>K y||M5 a S y)
 | [],D,b,c,K,hD,_=>⟨D,b,c,BA,hD.nd,fun y=>by simp [hD.mem y,M5]⟩
 | y::S,D,b,c,K,hD,hS=>by
  have hy:=hS y (.head _)
  have e1:VX (AA (n+8)) (.assign 9 (.call (.gl 78) [.loc 0,.loc 5,.loc 8])) (N2 s t D x l r (sv (vi a)) (sv (vi y)) c) g=some (.next,N2 s t D x l r (sv (vi a)) (sv (vi y)) (sv (vi (mt a y))),g) :=
   ET rfl (AH rfl rfl (vs:=[.tab,vi a,vi y]) rfl (SC gk a ha y hy))
  have last:∀ D:List (Int×Int),D.length≤12→VX (AA (n+8)) (.ite (.bop .And [.loc 4,.cmp .Gt (.call (.gl 1) [.loc 3]) (.gl 79)]) [.stuck] []) (N2 s t D x l r (sv (vi a)) (sv (vi y)) (sv (vi (mt a y)))) g=some (.next,N2 s t D x l r (sv (vi a)) (sv (vi y)) (sv (vi (mt a y))),g):=by
   intro D hl
   refine U3 (b:=false) ?_ AG
   cases x with
   | false=>exact A6 rfl
   | true =>
    refine A5 (g1:=g) rfl (A6 (AK (x:=vi (D.length:Nat)) (y:=vi 200) (UJ (a:=.dct D) rfl rfl ?_) rfl (cmp_gt (decide_eq_false (by omega)))))
    show (if _ then _ else _)=_
    rw [if_pos (by omega)]
  by_cases h2:mt a y=2
  ·obtain ⟨D',b',c',q1,q2⟩:=Fi gk ha S D (sv (vi y)) (sv (vi (mt a y))) K hD fun z hz=>hS z (.tail _ hz)
   refine ⟨D',b',c',Ab (σ1:=N2 s t D x l r (sv (vi a)) (sv (vi y)) c) rfl (AD e1 (AD ?_ (AD (last D hD.len) AG))) q1,q2.nd,fun z=>?_⟩
   ·exact U3 (b:=false) (AK (x:=vi (mt a y)) (y:=vi 2) rfl rfl (CQ (by simp [h2]))) AG
   ·rw [q2.mem z]
    simp only [M5,List.any_cons,h2]
    by_cases hz:z=2
    ·subst hz;simp
    ·have:((2:Int)==z)=false:=by simpa using fun e=>hz e.symm
     simp [this]
  ·have hD1:Got (putD D (mt a y) 1) (fun z=>K z||decide (z=mt a y)):=⟨IC hD.nd,fun z=>by
    rw [GM,hD.mem z]
    constructor
    ·rintro (h | h)
     ·exact ⟨h.1,by simp [h.2]⟩
     ·exact ⟨h▸X3 a ha y hy h2,by simp [h]⟩
    ·refine fun z0=>oA z0 fun h1 h2=>?_
     simp at h2
     exact h2.imp (fun h=>⟨h1,h⟩) id⟩
   obtain ⟨D',b',c',q1,q2⟩:=Fi gk ha S (putD D (mt a y) 1) (sv (vi y)) (sv (vi (mt a y))) _ hD1 fun z hz=>hS z (.tail _ hz)
   refine ⟨D',b',c',Ab (σ1:=N2 s t D x l r (sv (vi a)) (sv (vi y)) c) rfl (AD e1 (AD (σ1:=N2 s t (putD D (mt a y) 1) x l r (sv (vi a)) (sv (vi y)) (sv (vi (mt a y)))) (g1:=g) ?_ (AD (last _ hD1.len) AG))) q1,q2.nd,fun z=>?_⟩
   ·refine U3 (b:=true) (AK (x:=vi (mt a y)) (y:=vi 2) rfl rfl (CQ (by simp [h2]))) (AD (σ1:=N2 s t (putD D (mt a y) 1) x l r (sv (vi a)) (sv (vi y)) (sv (vi (mt a y)))) (g1:=g) ?_ AG)
    show (if D.length≤100000 then _ else _)=_
    rw [if_pos (by have:=hD.len;omega)];rfl
   ·rw [q2.mem z]
    simp only [M5,List.any_cons]
    by_cases hz:z=mt a y
    ·subst hz;simp [h2]
    ·have:(mt a y==z)=false:=by simpa using fun e=>hz e.symm
     simp [this,hz]
theorem I9 {n m:Nat} {g:G} (gk:GK m g) {s t:Int} {x:Bool} {l:List PV} {R:List Int} (hR:∀ y∈R,y∈EQ):∀ (S:List Int) (D:List (Int×Int)) (a b c:Option VS) (K:Kn),Got D K→(∀ y∈S,y∈EQ) →
  ∃ D' a' b' c',AU (Bv (AA (n+8)) [.loop (.one 8) (.loc 7) [.assign 9 (.call (.gl 78) [.loc 0,.loc 5,.loc 8]),.ite (.cmp .NotEq (.loc 9) (.gl 22)) [.store (.loc 3) (.loc 9) (.int 1)] [],.ite (.bop .And [.loc 4,.cmp .Gt (.call (.gl 1) [.loc 3]) (.gl 79)]) [.stuck] []]]) (.one 5) (S.map vi) (N2 s t D x l (R.map .int) a b c) g
   = some (.next,N2 s t D' x l (R.map .int) a' b' c',g)∧Got D' (fun y=>K y||S.any fun a=>M5 a R y)
 | [],D,a,b,c,K,hD,_=>⟨D,a,b,c,BA,hD.nd,fun y=>by simp [hD.mem y]⟩
 | y::S,D,a,b,c,K,hD,hS=>by
  refine oEEEA (Fi (n:=n) gk (s:=s) (t:=t) (x:=x) (l:=l) (r:=R.map .int) (hS y (.head _)) R D b c K hD hR) fun D1 b1 c1 q1 q2=>?_
  obtain ⟨D2,a2,b2,c2,q3,q4⟩:=I9 gk hR S D1 (sv (vi y)) b1 c1 _ q2 fun z hz=>hS z (.tail _ hz)
  refine ⟨D2,a2,b2,c2,Ab (σ1:=N2 s t D x l (R.map .int) (sv (vi y)) b c) rfl (AD (σ1:=N2 s t D1 x l (R.map .int) (sv (vi y)) b1 c1) (g1:=g) ?_ AG) q3,q4.nd,fun z=>?_⟩
  ·show AU _ _ ((R.map PV.int).map VV.imm) _ _=_
   rw [←JB]
   exact q1
  ·rw [q4.mem z]
   simp [Bool.or_assoc]
theorem Qc:∀ a∈AI,a=0∨a=1∨a∈EQ:=by decide
theorem at_of {K:Kn} (h0:K 0=false) (h1:K 1=false):∀ y∈toS K,y∈EQ:=fun y hy=>by
 refine oA (Ae.mp hy) fun ha hk=>?_
 exact (Qc y ha).elim (fun e=>Bool.noConfusion (hk.symm.trans ((congrArg K e).trans h0))) fun o=>o.elim (fun e=>Bool.noConfusion (hk.symm.trans ((congrArg K e).trans h1))) id
theorem NH {g:G} {t:Int} {K:Kn} (h:Kd g t K) (h0:K 0=false) (h1:K 1=false):∀ y∈toS K,y∈EQ:=at_of h0 h1
theorem XC:∀ {k x y:Bool},(k&&!(true&&true)&&y)=k→k=false:=by decide
theorem YW:∀ {k x:Bool},(k&&x&&!(true&&true))=k→k=false:=by decide
theorem Mu {K:Kn} (h:∀ a∈AI,By K a=K a) (h0:K 0=false) (h1:K 1=false):(K 6=true→K 16=false∧K 17=false)∧(K 7=true→K 18=false):=by
 have e16:=(EN h0 h1).symm.trans (h 16 (by decide))
 have e17:=(EN h0 h1).symm.trans (h 17 (by decide))
 have e18:=(EN h0 h1).symm.trans (h 18 (by decide))
 exact ⟨fun h=>by rw [h] at e16 e17;exact ⟨XC (x:=true) e16,XC (x:=true) e17⟩,fun h=>by rw [h] at e18;exact YW e18⟩
theorem Oa {K:Kn} (h:∀ a∈AI,By K a=K a) (h0:K 0=true):∀ a∈AI,K a=(a==0):=fun a ha=>(h a ha).symm.trans (OY h0)
theorem OZ {K:Kn} (h:∀ a∈AI,By K a=K a) (h1:K 1=true):∀ a∈AI,K a=(a==1):=fun a ha=>by
 have h0:K 0=false:=by
  cases h0:K 0 with
  | false=>rfl
  | true=>exact Bool.noConfusion (h1.symm.trans (Oa h h0 1 (by decide)))
 exact (h a ha).symm.trans (Ms h0 h1)
theorem LS {m:Nat} {g:G} (gk:GK m g) {t:Int} {K:Kn} (h:Kd g t K):t=1↔K 1=true:=by
 have k1:Kd g 1 (fun a=>a==1):=⟨by decide,.inr (.inl (by decide))⟩
 constructor
 ·rintro rfl
  rw [h.inj gk k1 1 (by decide)];rfl
 ·intro h1
  exact h.uniq gk k1 (OZ h.nm h1)
theorem LT {m:Nat} {g:G} (gk:GK m g) {t:Int} {K:Kn} (h:Kd g t K):t=0↔K 0=true:=by
 have k1:Kd g 0 (fun a=>a==0):=⟨by decide,.inr (.inl (by decide))⟩
 constructor
 ·rintro rfl
  rw [h.inj gk k1 0 (by decide)];rfl
 ·intro h1
  exact h.uniq gk k1 (Oa h.nm h1)
theorem X4:∀ a∈EQ,∀ b∈EQ,mt a b≠2→(mt a b != 0&&mt a b != 1)=true∧((a=mt a b∧(b=mt a b∨b=tp (mt a b)))∨(a=tp (mt a b)∧b=mt a b)):=by decide
theorem V2:∀ c∈EQ,c∈AI∧tp c∈AI∧(c != 2)=true∧mt c c=c∧mt c (tp c)=c∧mt (tp c) c=c:=by decide
theorem Oh {K L:Kn} {a b c:Int} (ha:a∈AI) (hb:b∈AI) (h2:(c != 2)=true) (e:mt a b=c) (ka:K a=true) (lb:L b=true):((toS K).any fun a=>M5 a (toS L) c)=true :=
 List.any_eq_true.mpr ⟨a,Ae.mpr ⟨ha,ka⟩,List.any_eq_true.mpr ⟨b,Ae.mpr ⟨hb,lb⟩,Bool.and_eq_true_iff.mpr ⟨beq_iff_eq.mpr e,h2⟩⟩⟩
theorem ABE:∀ {n p q r s:Bool},n=true→(p=true∧(q=true∨r=true)∨(s=true∧q=true))→(n&&((p&&(q||r))||(s&&q)))=true:=by decide
theorem ABA:∀ {n p q r s:Bool},(n&&((p&&(q||r))||(s&&q)))=true→n=true∧(p=true∧(q=true∨r=true)∨(s=true∧q=true)):=by decide
theorem X5 {K L:Kn} (k0:K 0=false) (k1:K 1=false) (l0:L 0=false) (l1:L 1=false):∀ c∈AI,((toS K).any fun a=>M5 a (toS L) c)=EJ K L c:=by
 intro c hc
 have e:EJ K L c=((c != 0&&c != 1)&&((K c&&(L c||L (tp c)))||(K (tp c)&&L c))):=(if_neg (by rw [k1];exact Bool.noConfusion)).trans (if_neg (by rw [l1];exact Bool.noConfusion))
 rw [e]
 refine Bool.eq_iff_iff.mpr ⟨fun h=>?_,fun h=>?_⟩
 ·refine oEA (List.any_eq_true.mp h) fun a ha h=>?_
  refine oEA (List.any_eq_true.mp h) fun b hb h=>?_
  refine oA (Bool.and_eq_true_iff.mp h) fun h1 h2=>?_
  have h1:=beq_iff_eq.mp h1
  subst h1
  refine oA (X4 a (at_of k0 k1 a ha) b (at_of l0 l1 b hb) (bne_iff_ne.mp h2)) fun q1 q2=>?_
  have ka:=(Ae.mp ha).2
  have lb:=(Ae.mp hb).2
  exact ABE q1 (q2.imp (fun p=>⟨(congrArg K p.1).symm.trans ka,p.2.imp (fun y=>(congrArg L y).symm.trans lb) fun y=>(congrArg L y).symm.trans lb⟩) fun p=>⟨(congrArg K p.1).symm.trans ka,(congrArg L p.2).symm.trans lb⟩)
 ·refine oA (ABA h) fun n h=>?_
  refine oA (Bool.and_eq_true_iff.mp n) fun n0 n1=>?_
  refine Xz (V2 c ((Qc c hc).resolve_left (bne_iff_ne.mp n0) |>.resolve_left (bne_iff_ne.mp n1))) fun c1 c2 c3 c4 c5 c6=>?_
  exact h.elim (fun ⟨x,y⟩=>y.elim (Oh c1 c1 c3 c4 x) (Oh c1 c2 c3 c5 x)) fun ⟨x,y⟩=>Oh c2 c1 c3 c6 x y
theorem OC:∀ c∈AI,tp c∈AI:=by decide
theorem Yv (c:Int):tp (tp c)=tp c:=by
 unfold tp
 split
 ·rfl
 ·split
  ·rfl
  ·split<;>simp_all
theorem Yw (c:Int):(tp c != 0&&tp c != 1)=(c != 0&&c != 1):=by
 unfold tp
 split
 ·rename_i h;subst h;rfl
 ·split
  ·rename_i h;rcases h with rfl | rfl<;>rfl
  ·split
   ·rename_i h;subst h;rfl
   ·rfl
theorem A7 {g:G} {a:Int} (ha:a∈AI):Kd g a (fun c=>c==a):=by
 revert a
 simp only [AI,List.forall_mem_cons,List.not_mem_nil,false_implies,implies_true,and_true]
 refine ⟨?_,?_,?_,?_,?_,?_,?_,?_,?_,?_,?_,?_⟩<;>exact ⟨by decide,.inr (.inl (by decide))⟩
theorem NF {g:G}:∀ (S:List Int),(∀ a∈S,a∈AI)→Ks g S (S.map fun a c=>c==a)
 | [],_=>.nil
 | a::S,h=>.cons (A7 (h a (.head _))) (NF S fun b hb=>h b (.tail _ hb))
theorem kd2 {g:G}:Kd g 2 (fun _=>false):=⟨by decide,.inl ⟨by decide,rfl⟩⟩
theorem VH {n m:Nat} {g:G} {s t:Int} {K L:Kn} (gk:GK m g) (hm:m≤1000) (h:Kd g s K) (h':Kd g t L) (k0:K 0=false) (l0:L 0=false) :
  Rs (AA (n+9) (.fn 32) [.tab,vi s,vi t] g) g m fun t' g'=>Kd g' t' (EJ K L):=by
 have start:∀ t' g',Rt (AA (n+8)) Cu.body [sv .tab,sv (vi s),sv (vi t),none,none,none,none,none,none,none] g (vi t') g'→AA (n+9) (.fn 32) [.tab,vi s,vi t] g=some (vi t',g'):=fun t' g' h=>AX rfl rfl (by decide) h
 have u1:=LS gk h
 have u2:=LS gk h'
 by_cases hst:s=t
 ·subst hst
  have e:=h.inj gk h'
  refine ⟨s,g,start _ _ (Cm (AE rfl) (G2 (AK (x:=vi s) (y:=vi s) rfl rfl (Ak (decide_eq_true rfl)))) (AS (AE rfl) rfl)),.refl,gk,h.congr fun c hc=>?_⟩
  unfold EJ
  rw [←e 1 (by decide),←e c hc,←e (tp c) (OC c hc)]
  cases k1:K 1 with
  | true=>simp
  | false =>
   by_cases c0:c=0
   ·subst c0;simp [k0]
   ·by_cases c1:c=1
    ·subst c1;simp [k1]
    ·simp only [Bool.false_eq_true,if_false]
     cases K c<;>simp [c0,c1]
 ·by_cases ht1:t=1
  ·have l1:=u2.mp ht1
   have k1:K 1=false:=by
    cases k1:K 1 with
    | false=>rfl
    | true=>exact absurd ((u1.mpr k1).trans ht1.symm) hst
   refine ⟨s,g,start _ _ (Cm (AE rfl) (Bm (AK (x:=vi s) (y:=vi t) rfl rfl (Ak (decide_eq_false hst))) (G2 (AK (x:=vi t) (y:=vi 1) rfl rfl (Ak (decide_eq_true ht1))))) (AS (AE rfl) rfl)),.refl,gk,h.congr fun c hc=>?_⟩
   unfold EJ;simp [k1,l1]
  ·have l1:L 1=false:=by
    cases l1:L 1 with
    | false=>rfl
    | true=>exact absurd (u2.mpr l1) ht1
   have start2:∀ t' g',Rt (AA (n+8)) (Cu.body.drop 1) [sv .tab,sv (vi s),sv (vi t),none,none,none,none,none,none,none] g (vi t') g'→AA (n+9) (.fn 32) [.tab,vi s,vi t] g=some (vi t',g'):=fun t' g' h =>
    start _ _ (As (AE rfl) (Bm (AK (x:=vi s) (y:=vi t) rfl rfl (Ak (decide_eq_false hst))) (Bm (AK (x:=vi t) (y:=vi 1) rfl rfl (Ak (decide_eq_false ht1))) EW)) h)
   by_cases Rv:s=1
   ·have k1:=u1.mp Rv
    refine ⟨t,g,start2 _ _ (Cm (AE rfl) (AK (x:=vi s) (y:=vi 1) rfl rfl (Ak (decide_eq_true Rv))) (AS (AE rfl) rfl)),.refl,gk,h'.congr fun c hc=>?_⟩
    unfold EJ;simp [k1]
   ·have k1:K 1=false:=by
     cases k1:K 1 with
     | false=>rfl
     | true=>exact absurd (u1.mpr k1) Rv
    have lk:(toS K).length≤12:=List.length_filter_le _ _
    have ll:(toS L).length≤12:=List.length_filter_le _ _
    refine oEEEEA (I9 (n:=n) gk (s:=s) (t:=t) (x:=decide (1<(toS K).length)&&decide (1<(toS L).length)) (l:=(toS K).map .int) (NH h' l0 l1) (toS K) [] none none none (fun _=>false) ⟨by simp [keys],fun a=>by simp [keys]⟩ (NH h k0 k1)) fun D a b c q1 q2=>?_
    generalize hM:(fun y=>false||(toS K).any fun a=>M5 a (toS L) y)=M at q2
    obtain ⟨t',g',p1,p2,p3,p4⟩:=E3 (n:=n+5) (w:=.lst ((toS M).map vi)) gk hm rfl (NF (toS M) fun a ha=>(Ae.mp ha).1)
    refine ⟨t',g',start2 _ _ ?_,p2,p3,?_⟩
    ·refine As (AE rfl) (AK (x:=vi s) (y:=vi 1) rfl rfl (Ak (decide_eq_false Rv))) ?_
     refine Av (σ1:=[sv .tab,sv (vi s),sv (vi t),some (.ownD []),none,none,none,none,none,none]) rfl ?_
     refine Av (σ1:=[sv .tab,sv (vi s),sv (vi t),some (.ownD []),none,none,sv (.imm (.tup ((toS K).map .int))),sv (.imm (.tup ((toS L).map .int))),none,none]) (g1:=g) ?_ ?_
     ·exact AJ (AH (i:=13) (vs:=[.tab,vi s]) rfl rfl rfl (Dd gk h)) (AJ (AH (i:=13) (vs:=[.tab,vi t]) rfl rfl rfl (Dd gk h')) rfl)
     ·refine AF (σ0:=[sv .tab,sv (vi s),sv (vi t),some (.ownD []),none,none,sv (.imm (.tup ((toS K).map .int))),sv (.imm (.tup ((toS L).map .int))),none,none]) (w:=vb (decide (1<(toS K).length)&&decide (1<(toS L).length))) (g1:=g) rfl rfl ?_ ?_
      ·have e6:VE (AA (n+8)) (.cmp .Gt (.call (.gl 1) [.loc 6]) (.int 1)) [sv .tab,sv (vi s),sv (vi t),some (.ownD []),none,none,sv (.imm (.tup ((toS K).map .int))),sv (.imm (.tup ((toS L).map .int))),none,none] g=some (vb (decide (1<(toS K).length)),g) :=
        CM (x:=vi ((toS K).length:Nat)) (y:=vi 1) (BH rfl rfl (vs:=[.imm (.tup ((toS K).map .int))]) rfl (by rw [L6 (by simp;omega),List.length_map])) rfl (cmp_gt (by rw [decide_eq_decide];omega))
       have e7:VE (AA (n+8)) (.cmp .Gt (.call (.gl 1) [.loc 7]) (.int 1)) [sv .tab,sv (vi s),sv (vi t),some (.ownD []),none,none,sv (.imm (.tup ((toS K).map .int))),sv (.imm (.tup ((toS L).map .int))),none,none] g=some (vb (decide (1<(toS L).length)),g) :=
        CM (x:=vi ((toS L).length:Nat)) (y:=vi 1) (BH rfl rfl (vs:=[.imm (.tup ((toS L).map .int))]) rfl (by rw [L6 (by simp;omega),List.length_map])) rfl (cmp_gt (by rw [decide_eq_decide];omega))
       exact QR e6 e7
      ·refine Ai (σ0:=N2 s t [] (decide (1<(toS K).length)&&decide (1<(toS L).length)) ((toS K).map .int) ((toS L).map .int) none none none) (w:=.imm (.tup ((toS K).map .int))) (its:=(toS K).map vi) rfl rfl ?_ q1 ?_
       ·show some (((toS K).map PV.int).map VV.imm)=_
        rw [←JB]
       ·refine AS (σ0:=N2 s t D (decide (1<(toS K).length)&&decide (1<(toS L).length)) ((toS K).map .int) ((toS L).map .int) a b c) rfl (AH rfl rfl (vs:=[.tab,.lst ((toS M).map vi)]) (AB rfl (AB (UJ (a:=.dct D) rfl rfl ?_) AR)) p1)
        rw [show (toS M).map vi=(sortI (D.map fun x=>x.1)).map vi by rw [q2.sorted]]
        exact if_pos (by have:=q2.len;omega)
    ·have hN:∀ c∈AI,BS ((toS M).map fun a c=>c==a) c=EJ K L c:=by
      intro c hc
      have e1:BS ((toS M).map fun a c=>c==a) c=M c:=by
       rw [Bool.eq_iff_iff]
       simp only [BS,List.any_map,List.any_eq_true,Function.comp]
       constructor
       ·refine fun z0=>oEA z0 fun x hx e=>?_
        have:c=x:=by simpa using e
        subst this;exact (Ae.mp hx).2
       ·intro h;exact ⟨c,Ae.mpr ⟨hc,h⟩,by simp⟩
      rw [e1,←hM]
      exact X5 k0 k1 l0 l1 c hc
     refine p4.congr fun c hc=>?_
     rw [DY hN c hc]
     refine oA (Mu h.nm k0 k1) fun pk pk'=>?_
     refine oA (Mu h'.nm l0 l1) fun pl pl'=>?_
     have mc:∀ c,EJ K L c=((c != 0&&c != 1)&&((K c&&(L c||L (tp c)))||(K (tp c)&&L c))):=fun c=>(if_neg (by rw [k1];exact Bool.noConfusion)).trans (if_neg (by rw [l1];exact Bool.noConfusion))
     have b6:∀ {a b:Bool},(a&&(b||b)||a&&b)=true→a=true∧b=true:=by decide
     have b0:∀ {a b x y:Bool},a=false→b=false→(a&&(b||x)||y&&b)=false:=by decide
     refine TX (mc 0) (mc 1) (fun h=>?_) (fun h=>?_) c
     ·refine oA (b6 ((mc 6).symm.trans h)) fun x y=>?_
      exact ⟨(mc 16).trans (b0 (pk x).1 (pl y).1),(mc 17).trans (b0 (pk x).2 (pl y).2)⟩
     ·refine oA (b6 ((mc 7).symm.trans h)) fun x y=>?_
      exact (mc 18).trans (b0 (pk' x) (pl' y))
noncomputable def A3 (Kl:List Kn):Kn:=fun c=>if Kl.all (fun K=>K 1) then c==1 else (c != 0&&c != 1)&&((Kl.all fun K=>K 1||K c||K (tp c))&&Kl.any fun K=>!K 1&&K c)
theorem ABz:∀ {k t:Bool},(k||t||t)=true→(k||t)=true:=by decide
theorem Zz:∀ {k c t:Bool},(k||t||t)=true→(k||c||t)=true:=by decide
theorem Zy:∀ {k c t:Bool},(k||c||t)=true→(!k&&c)≠true→(k||t||t)=true:=by decide
theorem Zx:∀ {k t:Bool},k≠true→(k||t||t)=true→(!k&&t)=true:=by decide
theorem AA6:∀ {k x y:Bool},k=true→(k||x||y)=true:=by decide
theorem AA5:∀ {k x:Bool},k=true→¬(!k&&x)=true:=by decide
theorem AA4:∀ {T F A E z x y:Bool},(T=true→A=true)→(T=true→F=true)→(A=true→E=false→T=true) →
  (z&&(((z&&(A&&E))&&(x||y))||((z&&(T&&F))&&x)))=(z&&((A&&(x||y))&&(E||x))):=by decide
theorem E0 {f:Kn→Bool} {Kl:List Kn} {L:Kn}:(Kl++[L]).all f=(Kl.all f&&f L):=List.all_append.trans (congrArg _ (Bool.and_true _))
theorem Nv {f:Kn→Bool} {Kl:List Kn} {L:Kn}:(Kl++[L]).any f=(Kl.any f||f L):=List.any_append.trans (congrArg _ (Bool.or_false _))
theorem X7 {Kl:List Kn} {c:Int} (u:Kl.all (fun K=>K 1)=true):A3 Kl c=(c==1):=if_pos u
theorem Jq {Kl:List Kn} {c:Int} (u:Kl.all (fun K=>K 1)=false):A3 Kl c=((c != 0&&c != 1)&&((Kl.all fun K=>K 1||K c||K (tp c))&&Kl.any fun K=>!K 1&&K c)):=if_neg (by rw [u];exact Bool.noConfusion)
theorem AAk {K:Kn} {L:Kn} {c:Int} (u:K 1=true):EJ K L c=L c:=if_pos u
theorem AAj {K:Kn} {L:Kn} {c:Int} (k:K 1=false) (l:L 1=true):EJ K L c=K c:=(if_neg (by rw [k];exact Bool.noConfusion)).trans (if_pos l)
theorem AAi {K:Kn} {L:Kn} {c:Int} (k:K 1=false) (l:L 1=false):EJ K L c=((c != 0&&c != 1)&&((K c&&(L c||L (tp c)))||(K (tp c)&&L c))):=(if_neg (by rw [k];exact Bool.noConfusion)).trans (if_neg (by rw [l];exact Bool.noConfusion))
theorem AA3:∀ {z x y:Bool},(z=false→x=false)→(z&&((true&&(false||x||y))&&(false||(true&&x))))=x:=by decide
theorem AA2:∀ {z a e x y:Bool},(z&&((a&&(true||x||y))&&(e||(!true&&x))))=(z&&(a&&e)):=by decide
theorem AA7:∀ {z A E x y:Bool},(z&&((A&&(false||x||y))&&(E||(!false&&x))))=(z&&((A&&(x||y))&&(E||x))):=by decide
theorem Oj {Kl:List Kn} {L:Kn} (h:∀ a∈AI,By L a=L a) (l0:L 0=false):∀ c∈AI,EJ (A3 Kl) L c=A3 (Kl++[L]) c:=by
 intro c hc
 cases u:Kl.all (fun K=>K 1) with
 | true =>
  rw [AAk (K:=A3 Kl) (X7 u)]
  cases l1:L 1 with
  | true=>exact (OZ h l1 c hc).trans (X7 (by rw [E0,u,l1];rfl)).symm
  | false =>
   rw [Jq (by rw [E0,u,l1];rfl),E0,Nv,l1]
   have u':=List.all_eq_true.mp u
   rw [List.all_eq_true.mpr (fun K hK=>AA6 (u' K hK)),List.any_eq_false.mpr (fun K hK=>AA5 (u' K hK))]
   exact (AA3 fun e=>(Bool.and_eq_false_iff.mp e).elim (fun e=>bne_eq_false_iff_eq.mp e▸l0) fun e=>bne_eq_false_iff_eq.mp e▸l1).symm
 | false =>
  have n1:A3 Kl 1=false:=Jq u
  rw [Jq (Kl:=Kl++[L]) (by rw [E0,u];rfl),E0,Nv]
  cases l1:L 1 with
  | true=>rw [AAj n1 l1,Jq u];exact AA2.symm
  | false =>
   rw [AAi n1 l1,Jq u,Jq u,Yw,Yv]
   refine oEA (List.all_eq_false.mp u) fun K hK hk=>?_
   refine (AA4 (fun a=>?_) (fun a=>?_) fun a b=>?_).trans AA7.symm
   ·exact List.all_eq_true.mpr fun K hK=>Zz (List.all_eq_true.mp a K hK)
   ·exact List.any_eq_true.mpr ⟨K,hK,Zx hk (List.all_eq_true.mp a K hK)⟩
   ·exact List.all_eq_true.mpr fun K hK=>Zy (List.all_eq_true.mp a K hK) (List.any_eq_false.mp b K hK)
theorem M6 {Kl Ll:List Kn} (h1:∀ K∈Kl,∃ L∈Ll,∀ a∈AI,K a=L a) (h2:∀ L∈Ll,∃ K∈Kl,∀ a∈AI,K a=L a):∀ c∈AI,A3 Kl c=A3 Ll c:=by
 intro c hc
 have ht:=OC c hc
 have all:∀ (f:Kn→Bool),(∀ K L:Kn,(∀ a∈AI,K a=L a)→f K=f L)→Kl.all f=Ll.all f:=fun f hf=>by
  rw [Bool.eq_iff_iff,List.all_eq_true,List.all_eq_true]
  constructor
  ·intro h L hL
   refine oEA (h2 L hL) fun K hK e=>?_
   rw [←hf K L e];exact h K hK
  ·intro h K hK
   refine oEA (h1 K hK) fun L hL e=>?_
   rw [hf K L e];exact h L hL
 have any:∀ (f:Kn→Bool),(∀ K L:Kn,(∀ a∈AI,K a=L a)→f K=f L)→Kl.any f=Ll.any f:=fun f hf=>by
  rw [Bool.eq_iff_iff,List.any_eq_true,List.any_eq_true]
  constructor
  ·refine fun z0=>oEA z0 fun K hK h=>?_
   refine oEA (h1 K hK) fun L hL e=>?_
   exact ⟨L,hL,by rw [←hf K L e];exact h⟩
  ·refine fun z0=>oEA z0 fun L hL h=>?_
   refine oEA (h2 L hL) fun K hK e=>?_
   exact ⟨K,hK,by rw [hf K L e];exact h⟩
 unfold A3
 rw [all _ fun K L e=>e 1 (by decide),all _ fun K L e=>by rw [e 1 (by decide),e c hc,e (tp c) ht],any _ fun K L e=>by rw [e 1 (by decide),e c hc]]
theorem JG {lo hi:Int} (h1:-1000000≤lo) (h2:lo≤1000000) (h3:-1000000≤hi) (h4:hi≤1000000):Bs (.imm (.rng lo hi))=some ((List.range' 0 (hi-lo).toNat).map fun k:Nat=>vi (lo+k)):=by
 refine (if_pos ⟨⟨h1,h2⟩,h3,h4⟩).trans ?_
 unfold EZ
 rw [List.map_map,←List.range_eq_range']
 rfl
theorem A2 {n:Nat} (h:n≤1000000):Bs (.imm (.rng 0 n))=some ((List.range' 0 n).map fun k:Nat=>vi k):=by
 rw [JG (by omega) (by omega) (by omega) (by omega)]
 simp
theorem Ks.len {g:G} {ts:List Int} {Kl:List Kn} (h:Ks g ts Kl):ts.length=Kl.length:=by
 induction h with
 | nil=>rfl
 | cons _ _ ih=>exact congrArg (·+1) ih
theorem Ks.at {g:G} {ts:List Int} {Kl:List Kn} (h:Ks g ts Kl):∀ {i:Nat} {t:Int},ts[i]?=some t→∃ K,Kl[i]?=some K∧Kd g t K:=by
 induction h with
 | nil=>exact fun h=>nO h
 | cons a _ ih =>
  intro i t h
  cases i with
  | zero=>exact ⟨_,rfl,Option.some.inj h▸a⟩
  | succ i=>exact ih h
theorem Ks.mem {g:G} {ts:List Int} {Kl:List Kn} (h:Ks g ts Kl) {t:Int} (ht:t∈ts):∃ K∈Kl,Kd g t K:=by
 refine oE (List.getElem?_of_mem ht) fun i hi=>?_
 refine oEA (h.at hi) fun K h1 h2=>?_
 exact ⟨K,List.mem_of_getElem? h1,h2⟩
theorem QI {m:Nat} {g:G} (gk:GK m g) {K:Kn} (h:Kd g 13 K):False:=by
 refine Or.elim (h.rep) (fun z0=>oA z0 fun _ e=>?_) fun z2=>Or.elim z2 (fun e=>?_) fun z1=>oAEA z1 fun _ i e e2=>?_
 ·exact absurd e (by decide)
 ·exact absurd (Ae.mp (by rw [e];exact List.mem_singleton.mpr rfl:(13:Int)∈toS K)).1 (by decide)
 ·have:i=13:=by omega
  subst this
  have:Aa[13]?=some (.tup [.int 1,.str (sO "error")]):=rfl
  rw [gk.row this] at e2
  simp [EM] at e2
theorem Fm {n m:Nat} {ts:List Int} {Kl:List Kn} (hm:m≤1000) (hlen:ts.length≤1000) (k0:∀ K∈Kl,K 0=false) {g0:G}:∀ (c k:Nat) (out:Int) (x:Option VS) (y:Option VS) (g:G),k+c=ts.length→GK m g→C3 g0 g→Ks g ts Kl→Kd g out (A3 (Kl.take k)) →
  ∃ σ' g' out',AU (Bv (AA (n+9)) [.ite (.cmp .NotIn (.sub (.loc 1) (.loc 4)) (.slTo (.loc 1) (.loc 4))) [.assign 3 (.call (.gl 80) [.loc 0,.loc 3,.sub (.loc 1) (.loc 4)])] []]) (.one 4) ((List.range' k c).map fun k:Nat=>vi k)
   [sv .tab,sv (.lst (ts.map vi)),x,sv (vi out),y] g=some (.next,[sv .tab,sv (.lst (ts.map vi)),x,sv (vi out'),σ'],g')∧GK m g'∧C3 g0 g'∧Kd g' out' (A3 Kl)
 | 0,k,out,x,y,g,hk,gk,e0,hks,ho=>by
  refine ⟨y,g,out,BA,gk,e0,?_⟩
  rw [List.take_of_length_le (by rw [←hks.len];omega)] at ho
  exact ho
 | c+1,k,out,x,y,g,hk,gk,e0,hks,ho=>by
  have hkl:k<ts.length:=by omega
  refine oEA (hks.at (List.getElem?_eq_getElem hkl)) fun L hL hd=>?_
  have tk:Kl.take (k+1)=Kl.take k++[L]:=by rw [List.take_add_one,hL];rfl
  have lz:L 0=false:=k0 L (List.mem_of_getElem? hL)
  have es:∀ z,VE (AA (n+9)) (.sub (.loc 1) (.loc 4)) [sv .tab,sv (.lst (ts.map vi)),x,z,sv (vi k)] g=some (vi ts[k],g):=fun z =>
   Af rfl rfl rfl (E5 (by simp;omega) (by rw [List.getElem?_map,List.getElem?_eq_getElem hkl];rfl))
  have ec:VT (AA (n+9)) (.cmp .NotIn (.sub (.loc 1) (.loc 4)) (.slTo (.loc 1) (.loc 4))) (VE (AA (n+9)) (.cmp .NotIn (.sub (.loc 1) (.loc 4)) (.slTo (.loc 1) (.loc 4)))) [sv .tab,sv (.lst (ts.map vi)),x,sv (vi out),sv (vi k)] g=some (!decide (ts[k]∈ts.take k),g):=by
   refine AK (x:=vi ts[k]) (y:=.lst ((ts.take k).map vi)) (es _) ?_ ?_
   ·rw [List.map_take]
    exact Bz (if_pos ⟨by omega,by omega,by rw [List.length_map];omega⟩)
   ·show ((Cz ((ts.take k).map vi)).map _).map _=_
    rw [CC];rfl
  by_cases hin:ts[k]∈ts.take k
  ·rw [decide_eq_true hin] at ec
   have ho':Kd g out (A3 (Kl.take (k+1))):=by
    refine ho.congr (M6 (fun K hK=>⟨K,by rw [tk];exact List.mem_append_left _ hK,fun _ _=>rfl⟩) fun K hK=>?_)
    rw [tk] at hK
    rcases mA hK with hK | hK
    ·exact ⟨K,hK,fun _ _=>rfl⟩
    ·simp at hK;subst hK
     refine oE (List.getElem?_of_mem hin) fun j hj=>?_
     have hjk:j<k:=by
      have:=(gI hj).1
      simp at this;omega
     rw [List.getElem?_take,if_pos hjk] at hj
     refine oEA (hks.at hj) fun M hM hMd=>?_
     refine ⟨M,List.mem_of_getElem? (i:=j) (by rw [List.getElem?_take,if_pos hjk];exact hM),hMd.inj gk hd⟩
   obtain ⟨σ',g',out',q1,q2,q3,q4⟩:=Fm hm hlen k0 c (k+1) out x (sv (vi k)) g (by omega) gk e0 hks ho'
   exact ⟨σ',g',out',Ab (σ1:=[sv .tab,sv (.lst (ts.map vi)),x,sv (vi out),sv (vi k)]) rfl (AD (Ag rfl ec AG) AG) q1,q2,q3,q4⟩
  ·rw [decide_eq_false hin] at ec
   have mz:A3 (Kl.take k) 0=false:=by
    unfold A3
    split<;>simp
   obtain ⟨t',g',p1,p2,p3,p4⟩:=VH (n:=n) gk hm ho hd mz lz
   have p4:=p4.congr (Oj (Kl:=Kl.take k) hd.nm lz)
   rw [←tk] at p4
   obtain ⟨σ',g'',out',q1,q2,q3,q4⟩:=Fm hm hlen k0 c (k+1) t' x (sv (vi k)) g' (by omega) p3 (e0.trans p2) (hks.ext p2) p4
   refine ⟨σ',g'',out',Ab (σ1:=[sv .tab,sv (.lst (ts.map vi)),x,sv (vi out),sv (vi k)]) rfl (AD (σ1:=[sv .tab,sv (.lst (ts.map vi)),x,sv (vi t'),sv (vi k)]) (Ag rfl ec (AD (AO rfl DP (AH rfl rfl (vs:=[.tab,vi out,vi ts[k]]) (AB rfl (AB rfl (AB (es _) AR))) p1)) AG)) AG) q1,q2,q3,q4⟩
theorem VK {n m:Nat} {g:G} {ts:List Int} {Kl:List Kn} (gk:GK m g) (hm:m≤1000) (hk:Ks g ts Kl) (hlen:ts.length≤1000) (k0:∀ K∈Kl,K 0=false) :
  Rs (AA (n+10) (.fn 33) [.tab,.lst (ts.map vi)] g) g m fun t' g'=>Kd g' t' (A3 Kl):=by
 have n0:0∉ts:=fun h=>by
  refine oEA (hk.mem h) fun K hK hd=>?_
  have:=(LT gk hd).mp rfl
  rw [k0 K hK] at this;exact nB this
 have n13:13∉ts:=fun h=>by
  refine oEA (hk.mem h) fun K hK hd=>?_
  exact QI gk hd
 have tin:∀ (a:Int),EP .In (vi a) (.lst (ts.map vi))=some (decide (a∈ts)):=fun a=>by
  show (Cz (ts.map vi)).map _=_
  rw [CC];rfl
 have start:∀ t' g',Rt (AA (n+9)) IG.body [sv .tab,sv (.lst (ts.map vi)),none,none,none] g (vi t') g'→AA (n+10) (.fn 33) [.tab,.lst (ts.map vi)] g=some (vi t',g'):=fun t' g' h=>AX rfl rfl (by decide) h
 have stepf:∀ (a:Int) (x:Option VS),a∉ts→Bv (AA (n+9)) [.ite (.cmp .In (.loc 2) (.loc 1)) [.ret (.loc 2)] []] [sv .tab,sv (.lst (ts.map vi)),sv (vi a),none,none] g=some (.next,[sv .tab,sv (.lst (ts.map vi)),sv (vi a),none,none],g):=fun a x ha =>
  AD (Ag (AE rfl) (b:=false) (AK (x:=vi a) (y:=.lst (ts.map vi)) rfl rfl ((tin a).trans (by rw [decide_eq_false ha]))) AG) AG
 by_cases h2:2∈ts
 ·refine oEA (hk.mem h2) fun K hK hd=>?_
  have e:=hd.inj gk kd2
  refine ⟨2,g,start _ _ (Ig (AE rfl) (w:=.imm (.tup [.int 2,.int 0,.int 13])) rfl rfl (KZ (σ1:=[sv .tab,sv (.lst (ts.map vi)),sv (vi 2),none,none]) rfl (ES (σ1:=[sv .tab,sv (.lst (ts.map vi)),sv (vi 2),none,none]) (Ag (b:=true) (AE rfl) (AK (x:=vi 2) (y:=.lst (ts.map vi)) rfl rfl ((tin 2).trans (by rw [decide_eq_true h2]))) (ES rfl))))),.refl,gk,kd2.congr fun c hc=>?_⟩
  unfold A3
  have u:Kl.all (fun K=>K 1)=false:=List.all_eq_false.mpr ⟨K,hK,by rw [e 1 (by decide)];simp⟩
  have u2:(Kl.all fun K=>K 1||K c||K (tp c))=false:=List.all_eq_false.mpr ⟨K,hK,by rw [e 1 (by decide),e c hc,e (tp c) (OC c hc)];simp⟩
  rw [u,u2];simp
 ·refine oEEEAAA (Fm (n:=n) (ts:=ts) (Kl:=Kl) hm hlen k0 ts.length 0 1 (sv (vi 13)) none g (by omega) gk .refl hk (by
   refine (A7 (a:=1) (by decide)).congr fun c hc=>?_
   simp [A3])) fun σ' g' out' q1 q2 q3 q4=>?_
  refine ⟨out',g',start _ _ ?_,q3,q2,q4⟩
  refine Ai (AE rfl) (w:=.imm (.tup [.int 2,.int 0,.int 13])) (σ2:=[sv .tab,sv (.lst (ts.map vi)),sv (vi 13),none,none]) (g2:=g) rfl rfl (Ab (σ1:=[sv .tab,sv (.lst (ts.map vi)),sv (vi 2),none,none]) rfl (stepf 2 none h2) (Ab (σ1:=[sv .tab,sv (.lst (ts.map vi)),sv (vi 0),none,none]) rfl (stepf 0 none n0) (Ab (σ1:=[sv .tab,sv (.lst (ts.map vi)),sv (vi 13),none,none]) rfl (stepf 13 none n13) BA))) ?_
  refine AF (AE rfl) rfl (w:=vi 1) (g1:=g) rfl ?_
  refine Ai (AE rfl) (w:=.imm (.rng 0 ts.length)) (g1:=g) (BH rfl rfl (vs:=[vi (ts.length:Nat)]) (AB (BH rfl rfl (vs:=[.lst (ts.map vi)]) rfl ((HM (by simp;omega)).trans (by rw [List.length_map]))) AR) rfl) (A2 (by omega)) q1 ?_
  exact AS rfl rfl
structure Pl where
 nm:Str
 t:Int
 K:Kn
 late:Bool
noncomputable def mk (b:Bool):Int:=if b then 1 else 0
noncomputable def pv (p:Pl):PV:=.tup [.str p.nm,.int p.t,.int (mk p.late)]
noncomputable def ev (p:Pl):PV:=.tup [.int p.t,.int (mk p.late)]
inductive Rest where
 | no | arr (rt:Nat) (ro t:Int) (K:Kn) | any | tup (rt:Nat) (els:List Pl) (tl:Option (Int×Kn))
noncomputable def Rest.els:Rest→List Pl
 | .tup _ els _=>els
 | _=>[]
noncomputable def Rest.tail:Rest→Option Kn
 | .no=>none
 | .arr _ _ _ K=>some K
 | .any=>some fun a=>a==0
 | .tup _ _ tl=>tl.map (·.2)
noncomputable def Rest.num:Rest→Option Nat
 | .no=>none
 | .arr rt _ _ _=>some rt
 | .any=>some 0
 | .tup rt _ _=>some rt
structure Sg where
 fx:List Pl
 rest:Rest
 rn:Str
 ret:Int
 RK:Kn
noncomputable def Sg.pl (s:Sg):List Pl:=s.fx++s.rest.els
noncomputable def Sg.restP (s:Sg):List PV:=match s.rest.num with
 | none=>[]
 | some rt=>[.tup [.str s.rn,.int rt,.int 2]]
noncomputable def AN (own:PV) (s:Sg):PV:=.tup [.int 13,own,.tup (s.fx.map pv++s.restP),.int s.ret,.tup [],.int 0]
noncomputable def SW:Option (Int×Kn)→List PV
 | none=>[]
 | some (t,_)=>[.tup [.int t,.int 2]]
noncomputable def Al (els:List Pl) (tl:Option (Int×Kn)):PV:=.tup [.int 12,.tup (els.map ev++SW tl),.int 0]
structure F9 (g:G) (r:Rest):Prop where
 arr:∀ rt ro t K,r=.arr rt ro t K→g.rows[rt]?=some (.tup [.int 11,.int t,.int ro])∧Kd g t K
 tup:∀ rt els tl,r=.tup rt els tl→g.rows[rt]?=some (Al els tl)∧(∀ p∈els,Kd g p.t p.K)∧(∀ t K,tl=some (t,K)→Kd g t K)∧els.length≤2∧∀ p,els[0]?=some p→els.length=2→p.late=false
structure FO (own:PV) (g:G) (i:Nat) (s:Sg):Prop where
 row:g.rows[i]?=some (AN own s)
 fx:∀ p∈s.fx,Kd g p.t p.K
 len:s.fx.length≤3
 rest:F9 g s.rest
 ret:Kd g s.ret s.RK
theorem F9.ext {g g':G} {r:Rest} (h:F9 g r) (e:C3 g g'):F9 g' r :=
 ⟨fun rt ro t K hr=>⟨e.at (h.arr rt ro t K hr).1,(h.arr rt ro t K hr).2.ext e⟩,fun rt els tl hr=>by
  refine Mr (h.tup rt els tl hr) fun h1 h2 h3 h4 h5=>?_
  exact ⟨e.at h1,fun p hp=>(h2 p hp).ext e,fun t K ht=>(h3 t K ht).ext e,h4,h5⟩⟩
theorem FO.ext {own:PV} {g g':G} {i:Nat} {s:Sg} (h:FO own g i s) (e:C3 g g'):FO own g' i s :=
 ⟨e.at h.row,fun p hp=>(h.fx p hp).ext e,h.len,h.rest.ext e,h.ret.ext e⟩
noncomputable def Aw:List Bool→Nat
 | []=>0
 | b::l=>if Aw l≠0 then Aw l+1 else if b then 0 else 1
theorem Wt {P:List Pl→Prop} (h0:P []) (h1:∀ x t K a,P [⟨x,t,K,a⟩]) (h2:∀ x t K a y u L b,P [⟨x,t,K,a⟩,⟨y,u,L,b⟩]):∀ l:List Pl,l.length≤2→P l:=by
 intro l h
 cases l with
 | nil=>exact h0
 | cons p l =>
  cases l with
  | nil=>exact h1 _ _ _ _
  | cons q l =>
   cases l with
   | nil=>exact h2 _ _ _ _ _ _ _ _
   | cons r l=>exact absurd (Nat.le_of_succ_le_succ (Nat.le_of_succ_le_succ h)) (Nat.not_succ_le_zero _)
theorem Vx {P:List Pl→Prop} (h0:P []) (h1:∀ x t K a,P [⟨x,t,K,a⟩]) (h2:∀ x t K a y u L b,P [⟨x,t,K,a⟩,⟨y,u,L,b⟩]) (h3:∀ x t K a y u L b z v M c,P [⟨x,t,K,a⟩,⟨y,u,L,b⟩,⟨z,v,M,c⟩]):∀ l:List Pl,l.length≤3→P l:=by
 intro l h
 cases l with
 | nil=>exact h0
 | cons p l=>exact Wt (P:=fun l=>P (p::l)) (h1 _ _ _ _) (h2 _ _ _ _) (h3 _ _ _ _) l (Nat.le_of_succ_le_succ h)
theorem H5 {n:Nat} {own:PV} {g:G} {s:Sg} (h:s.fx.length≤3):AA (n+1) (.fn 40) [.imm (AN own s)] g=some (vi (s.fx.length:Nat),g):=by
 obtain ⟨fx,rest,rn,ret,RK⟩:=s
 unfold AN Sg.restP
 generalize rest.num=o
 revert h
 generalize fx=l
 revert l
 refine Vx ?_ (fun _ _ _ a=>?_) (fun _ _ _ a _ _ _ b=>?_) fun _ _ _ a _ _ _ b _ _ _ c=>?_
 ·cases o<;>kernel_rfl
 ·cases o<;>cases a<;>kernel_rfl
 ·cases o<;>cases a<;>cases b<;>kernel_rfl
 ·cases o<;>cases a<;>cases b<;>cases c<;>kernel_rfl
theorem XV {n:Nat} {own:PV} {g:G} {s:Sg} (h:s.fx.length≤3):AA (n+1) (.fn 44) [.imm (AN own s)] g=some (vi (Aw (s.fx.map Pl.late):Nat),g):=by
 obtain ⟨fx,rest,rn,ret,RK⟩:=s
 unfold AN Sg.restP
 generalize rest.num=o
 revert h
 generalize fx=l
 revert l
 refine Vx ?_ (fun _ _ _ a=>?_) (fun _ _ _ a _ _ _ b=>?_) fun _ _ _ a _ _ _ b _ _ _ c=>?_
 ·cases o<;>kernel_rfl
 ·cases o<;>cases a<;>kernel_rfl
 ·cases o<;>cases a<;>cases b<;>kernel_rfl
 ·cases o<;>cases a<;>cases b<;>cases c<;>kernel_rfl
noncomputable def HV (els:List Pl):Nat:=(els.filter fun p=>!p.late).length
theorem VA {n:Nat} {g:G} {els:List Pl} {tl:Option (Int×Kn)} (h:els.length≤2):AA (n+1) (.fn 34) [.imm (Al els tl)] g=some (vi (HV els:Nat),g):=by
 revert h
 generalize els=l
 revert l
 refine Wt ?_ (fun _ _ _ a=>?_) fun _ _ _ a _ _ _ b=>?_
 ·rcases tl with _ | ⟨_,_⟩<;>kernel_rfl
 ·rcases tl with _ | ⟨_,_⟩<;>cases a<;>kernel_rfl
 ·rcases tl with _ | ⟨_,_⟩<;>cases a<;>cases b<;>kernel_rfl
theorem VB {n:Nat} {g:G} {els:List Pl} {tl:Option (Int×Kn)} (h:els.length≤2):AA (n+1) (.fn 35) [.imm (Al els tl)] g=some (vi (if tl.isSome then -1 else (els.length:Nat)),g):=by
 revert h
 generalize els=l
 revert l
 refine Wt ?_ (fun _ _ _ a=>?_) fun _ _ _ a _ _ _ b=>?_
 ·rcases tl with _ | ⟨_,_⟩<;>kernel_rfl
 ·rcases tl with _ | ⟨_,_⟩<;>cases a<;>kernel_rfl
 ·rcases tl with _ | ⟨_,_⟩<;>cases a<;>cases b<;>kernel_rfl
theorem R9 {n:Nat} {g:G} {els:List Pl} {tl:Option (Int×Kn)} (h:els.length≤2):AA (n+1) (.fn 37) [.imm (Al els tl)] g=some (vi (els.length:Nat),g):=by
 revert h
 generalize els=l
 revert l
 refine Wt ?_ (fun _ _ _ a=>?_) fun _ _ _ a _ _ _ b=>?_
 ·rcases tl with _ | ⟨_,_⟩<;>kernel_rfl
 ·rcases tl with _ | ⟨_,_⟩<;>cases a<;>kernel_rfl
 ·rcases tl with _ | ⟨_,_⟩<;>cases a<;>cases b<;>kernel_rfl
theorem MM {n m:Nat} {g:G} (gk:GK m g):AA (n+1) (.fn 13) [.tab,vi 0] g=some (.imm (.tup [.int 0]),g) :=
 (Dd gk (A7 (a:=0) (by decide))).trans rfl
theorem ne2 {m:Nat} {g:G} (gk:GK m g) {i:Nat} {r:PV} (h:g.rows[i]?=some r) (hr:r≠.tup [.int 1,.str (sO "never")]):i≠2:=by
 intro e
 subst e
 rw [gk.row Ey] at h
 exact hr (Option.some.inj h).symm
theorem Qp {n:Nat} {own:PV} {g:G} {s:Sg} (h:s.fx.length≤3) (hr:s.rest.num=none):AA (n+1) (.fn 39) [.host,.imm (AN own s)] g=some (.imm (.tup []),g):=by
 obtain ⟨fx,rest,rn,ret,RK⟩:=s
 unfold AN Sg.restP
 simp only at hr h
 simp only [hr]
 revert h
 generalize fx=l
 revert l
 refine Vx ?_ (fun _ _ _ a=>?_) (fun _ _ _ a _ _ _ b=>?_) fun _ _ _ a _ _ _ b _ _ _ c=>?_
 ·kernel_rfl
 ·cases a<;>kernel_rfl
 ·cases a<;>cases b<;>kernel_rfl
 ·cases a<;>cases b<;>cases c<;>kernel_rfl
theorem Qo {n:Nat} {own:PV} {g:G} {s:Sg} {rt:Nat} (h:s.fx.length≤3) (hr:s.rest.num=some rt) (h2:rt≠2) (hp:AA (n+1) (.fn 13) [.tab,vi rt] g=some (.imm (.tup [.int rt]),g)):AA (n+2) (.fn 39) [.host,.imm (AN own s)] g=some (.imm (.tup [.int rt]),g):=by
 have main:∀ row,(VT (AA (n+1)) (.bop .Or [.not (.sub (.loc 1) (.int 2)),.cmp .NotEq (.sub (.sub (.sub (.loc 1) (.int 2)) (.int (-1))) (.int 2)) (.gl 83)]) (VE (AA (n+1)) (.bop .Or [.not (.sub (.loc 1) (.int 2)),.cmp .NotEq (.sub (.sub (.sub (.loc 1) (.int 2)) (.int (-1))) (.int 2)) (.gl 83)])) [sv .host,sv (.imm row),none] g=some (false,g)) →
   (VE (AA (n+1)) (.meth (.loc 0) 3 [.sub (.sub (.sub (.loc 1) (.int 2)) (.int (-1))) (.int 1)]) [sv .host,sv (.imm row),none] g=some (vi rt,g))→AA (n+2) (.fn 39) [.host,.imm row] g=some (.imm (.tup [.int rt]),g):=by
  intro row h1 h3
  refine AX rfl rfl (by decide) (As (AE rfl) h1 (AF (AE rfl) rfl h3 (AS (AE rfl) ?_)))
  exact A9 (t:=false) (AK (x:=vi rt) (y:=vi 2) rfl rfl (Ak (decide_eq_false (by omega)))) (AH rfl rfl (vs:=[.tab,vi rt]) rfl hp)
 obtain ⟨fx,rest,rn,ret,RK⟩:=s
 unfold AN Sg.restP
 simp only at hr h
 simp only [hr]
 revert h
 generalize fx=l
 revert l
 refine Vx ?_ (fun _ _ _ a=>?_) (fun _ _ _ a _ _ _ b=>?_) fun _ _ _ a _ _ _ b _ _ _ c=>?_
 ·exact main _ (by kernel_rfl) (by kernel_rfl)
 ·exact main _ (by kernel_rfl) (by kernel_rfl)
 ·exact main _ (by kernel_rfl) (by kernel_rfl)
 ·exact main _ (by kernel_rfl) (by kernel_rfl)
noncomputable def RO (g:G) (r:Int):Option Kn→Prop
 | none=>r=-1
 | some K=>Kd g r K
noncomputable def Jm (p:Pl):Kn:=if p.late then YZ p.K else p.K
noncomputable def Sg.at' (s:Sg) (i:Nat):Option Kn:=match s.pl[i]? with
 | some p=>some (Jm p)
 | none=>s.rest.tail
theorem TW {g:G} {t:Int} {K:Kn} (h:Kd g t K):∀ a∈AI,By (BS [K]) a=K a:=fun a ha=>by
 rw [DY (K:=BS [K]) (L:=K) (fun b _=>by simp [BS]) a ha,h.nm a ha]
section
variable {elt:VL→G→Option (VV×G)} {cond:VL→G→Option (Bool×G)} {t:PT} {σ σ':VL} {g g1 g2:G} {x y:VV} {xs out:List VV} {z:Option (List VV×G)}
theorem Zr:BQ elt cond t σ [] out g=some (out,g):=rfl
theorem YT (hb:B3 t x σ=some σ') (hc:cond σ' g=some (false,g1)) (h:BQ elt cond t σ xs out g1=z):BQ elt cond t σ (x::xs) out g=z:=AJ hb (AJ hc h)
theorem PU (hb:B3 t x σ=some σ') (hc:cond σ' g=some (true,g1)) (he:elt σ' g1=some (y,g2)) (hl:out.length≤100000) (h:BQ elt cond t σ xs (out++[y]) g2=z):BQ elt cond t σ (x::xs) out g=z:=AJ hb (AJ hc (AJ he ((if_pos hl).trans h)))
theorem Ua (hb:B3 t x σ=some σ') (hc:cond σ' g=some (true,g1)) (he:elt σ' g1=some (y,g2)):BQ elt cond t σ [x] [] g=some ([y],g2):=PU hb hc he (Nat.zero_le _) Zr
end
theorem VN {n m:Nat} {g:G} {p:Pl} (gk:GK m g) (hm:m≤1000) (h:Kd g p.t p.K):Rs (AA (n+5) (.fn 36) [.tab,.imm (ev p)] g) g m fun t g'=>Kd g' t (Jm p):=by
 obtain ⟨nm,t,K,late⟩:=p
 cases late with
 | false=>exact ⟨t,g,by kernel_rfl,.refl,gk,h⟩
 | true =>
  obtain ⟨t',g',h1,h2,h3,h4⟩:=v_add (n:=n) gk hm h
  refine ⟨t',g',?_,h2,h3,h4⟩
  refine AX (σ:=[sv .tab,sv (.imm (.tup [.int t,.int 1]))]) rfl rfl (by decide) (As (AE rfl) (by rfl) (AS (AE rfl) ?_))
  exact A9 (t:=true) (g1:=g) (by rfl) (AH rfl rfl (vs:=[.tab,vi t]) rfl h1)
theorem SD {n:Nat} {g:G} {t:Int}:AA (n+5) (.fn 36) [.tab,.imm (.tup [.int t,.int 2])] g=some (vi t,g):=by kernel_rfl
theorem VJ {n:Nat} {g:G} {els:List Pl} (h:els.length≤2):AA (n+2) (.fn 38) [.host,.imm (Al els none)] g=some (vi (-1),g):=by
 revert h
 generalize els=l
 revert l
 refine Wt ?_ (fun _ _ _ a=>?_) fun _ _ _ a _ _ _ b=>?_
 ·kernel_rfl
 ·cases a<;>kernel_rfl
 ·cases a<;>cases b<;>kernel_rfl
theorem VI {n m:Nat} {g:G} {els:List Pl} {t:Int} {K:Kn} (gk:GK m g) (hm:m≤1000) (h:els.length≤2) (hk:Kd g t K):Rs (AA (n+6) (.fn 38) [.host,.imm (Al els (some (t,K)))] g) g m fun t' g'=>Kd g' t' K:=by
 obtain ⟨t',g',h1,h2,h3,h4⟩:=E3 (n:=n+2) (w:=.lst [vi t]) gk hm (ts:=[t]) rfl (.cons hk .nil)
 refine ⟨t',g',?_,h2,h3,h4.congr (TW hk)⟩
 have main:∀ row,(VE (AA (n+5)) (.slFrom (.sub (.loc 1) (.int 1)) (.call (.gl 81) [.loc 1])) [sv .host,sv (.imm row),none,none] g=some (.imm (.tup [.tup [.int t,.int 2]]),g))→AA (n+6) (.fn 38) [.host,.imm row] g=some (vi t',g'):=by
  intro row hr
  refine AX (σ:=[sv .host,sv (.imm row),none,none]) rfl rfl (by decide) (AF (AE rfl) rfl hr (AS (AE rfl) ?_))
  refine A9 (t:=true) (g1:=g) (by rfl) (AH rfl rfl (vs:=[.tab,.lst [vi t]]) (g1:=g) (AB (v:=.tab) (g1:=g) rfl (AB (BO (w:=.imm (.tup [.tup [.int t,.int 2]])) (g1:=g) (its:=[.imm (.tup [.int t,.int 2])]) rfl rfl (Ua (σ':=[sv .host,sv (.imm row),sv (.imm (.tup [.tup [.int t,.int 2]])),sv (.imm (.tup [.int t,.int 2]))]) (g1:=g) rfl rfl (AH rfl rfl (vs:=[.tab,.imm (.tup [.int t,.int 2])]) rfl SD))) AR)) h1)
 revert h
 generalize els=l
 revert l
 refine Wt ?_ (fun _ _ _ a=>?_) fun _ _ _ a _ _ _ b=>?_
 ·exact main _ (by kernel_rfl)
 ·cases a<;>exact main _ (by kernel_rfl)
 ·cases a<;>cases b<;>exact main _ (by kernel_rfl)
theorem SO {g:G} {els:List Pl} {tl:Option (Int×Kn)} (h:els.length≤2) {i:Nat} {p:Pl} (hp:els[i]?=some p):VE C (.sub (.sub (.loc 1) (.int 1)) (.loc 2)) [sv .host,sv (.imm (Al els tl)),sv (vi i)] g=some (.imm (ev p),g):=by
 have hi:=(gI hp).1
 refine Af rfl (w:=.imm (.tup (els.map ev++SW tl))) (g1:=g) (k:=vi i) (by rfl) rfl (C9 ?_ ?_)
 ·have:(SW tl).length≤1:=by rcases tl with _ | ⟨_,_⟩<;>simp [SW]
  simp;omega
 ·rw [List.getElem?_append_left (by simpa using hi),List.getElem?_map,hp];rfl
theorem U8 {n m:Nat} {g:G} {els:List Pl} {tl:Option (Int×Kn)} (gk:GK m g) (hm:m≤1000) (h:els.length≤2) (he:∀ p∈els,Kd g p.t p.K) (ht:∀ t K,tl=some (t,K)→Kd g t K) (i:Nat) :
  Rs (AA (n+7) (.fn 41) [.host,.imm (Al els tl),vi i] g) g m fun r g'=>RO g' r (match els[i]? with | some p=>some (Jm p) | none=>tl.map (·.2)):=by
 have ec:∀ z,decide ((i:Int)<(els.length:Nat))=z→VT (AA (n+6)) (.cmp .Lt (.loc 2) (.call (.gl 81) [.loc 1])) (VE (AA (n+6)) (.cmp .Lt (.loc 2) (.call (.gl 81) [.loc 1]))) [sv .host,sv (.imm (Al els tl)),sv (vi i)] g=some (z,g):=fun z hz =>
  AK (x:=vi i) (y:=vi (els.length:Nat)) rfl (AH rfl rfl (vs:=[.imm (Al els tl)]) rfl (R9 h)) (Fy hz)
 cases hp:els[i]? with
 | some p =>
  have hi:=(gI hp).1
  obtain ⟨t,g',h1,h2,h3,h4⟩:=VN (n:=n+1) gk hm (he p (List.mem_of_getElem? hp))
  refine ⟨t,g',?_,h2,h3,h4⟩
  refine AX (σ:=[sv .host,sv (.imm (Al els tl)),sv (vi i)]) rfl rfl (by decide) (Cm (AE rfl) (ec true (decide_eq_true (by omega))) (AS (AE rfl) ?_))
  exact AH rfl rfl (vs:=[.tab,.imm (ev p)]) (AB (v:=.tab) (g1:=g) rfl (AB (SO h hp) AR)) h1
 | none =>
  have hi:=List.getElem?_eq_none_iff.mp hp
  have go:∀ r g',AA (n+6) (.fn 38) [.host,.imm (Al els tl)] g=some (vi r,g')→AA (n+7) (.fn 41) [.host,.imm (Al els tl),vi i] g=some (vi r,g'):=fun r g' h1 =>
   AX (σ:=[sv .host,sv (.imm (Al els tl)),sv (vi i)]) rfl rfl (by decide) (As (AE rfl) (ec false (decide_eq_false (by omega))) (AS (AE rfl) (AH rfl rfl (vs:=[.host,.imm (Al els tl)]) rfl h1)))
  rcases tl with _ | ⟨t,K⟩
  ·exact ⟨-1,g,go _ _ (VJ h),.refl,gk,rfl⟩
  ·obtain ⟨t',g',h1,h2,h3,h4⟩:=VI (n:=n) gk hm h (ht t K rfl)
   exact ⟨t',g',go _ _ h1,h2,h3,h4⟩
theorem SA {n m:Nat} {g:G} {r:Rest} (gk:GK m g) (hm:m≤1000) (hr:F9 g r) {rt:Nat} (hn:r.num=some rt) (i:Nat) :
  Rs (AA (n+8) (.fn 42) [.host,vi rt,vi i] g) g m fun t g'=>RO g' t (match r.els[i]? with | some p=>some (Jm p) | none=>r.tail):=by
 have row:∀ x,g.rows[rt]?=some x→VE (AA (n+7)) (.sub (.attr (.attr (.loc 0) 14) 4) (.loc 1)) [sv .host,sv (vi rt),sv (vi i),none] g=some (.imm x,g):=fun x hx =>
  Af rfl (w:=.rws) (g1:=g) (k:=vi rt) rfl rfl (Az hx)
 cases r with
 | no=>simp [Rest.num] at hn
 | arr rt' ro t K =>
  simp only [Rest.num,Option.some.injEq] at hn;subst hn
  refine oA (hr.arr _ _ _ _ rfl) fun h1 h2=>?_
  refine ⟨t,g,?_,.refl,gk,h2⟩
  refine AX (σ:=[sv .host,sv (vi rt'),sv (vi i),none]) rfl rfl (by decide) (AF (AE rfl) rfl (row _ h1) (Cm (AE rfl) (by rfl) (AS (AE rfl) (by rfl))))
 | any =>
  simp only [Rest.num,Option.some.injEq] at hn;subst hn
  refine ⟨0,g,?_,.refl,gk,A7 (by decide)⟩
  refine AX (σ:=[sv .host,sv (vi 0),sv (vi i),none]) rfl rfl (by decide) (AF (AE rfl) rfl (row _ (gk.row (r:=.tup [.int 1,.str (sO "any")]) rfl)) (As (AE rfl) (by rfl) (As (AE rfl) (by rfl) (Cm (AE rfl) (by rfl) (AS (AE rfl) (by rfl))))))
 | tup rt' els tl =>
  simp only [Rest.num,Option.some.injEq] at hn;subst hn
  refine Mr (hr.tup _ _ _ rfl) fun h1 h2 h3 h4 h5=>?_
  obtain ⟨t,g',q1,q2,q3,q4⟩:=U8 (n:=n) gk hm h4 h2 h3 i
  refine ⟨t,g',?_,q2,q3,q4⟩
  refine AX (σ:=[sv .host,sv (vi rt'),sv (vi i),none]) rfl rfl (by decide) (AF (AE rfl) rfl (row _ h1) (As (AE rfl) (by rfl) (Cm (AE rfl) (by rfl) (AS (AE rfl) ?_))))
  exact AH rfl rfl (vs:=[.host,.imm (Al els tl),vi i]) rfl q1
theorem TB {m:Nat} {g:G} (gk:GK m g) {r:Rest} (hr:F9 g r) {rt:Nat} (hn:r.num=some rt):rt≠2∧∀ n,AA (n+1) (.fn 13) [.tab,vi rt] g=some (.imm (.tup [.int rt]),g):=by
 cases r with
 | no=>simp [Rest.num] at hn
 | arr rt' ro t K =>
  simp only [Rest.num,Option.some.injEq] at hn;subst hn
  refine oA (hr.arr _ _ _ _ rfl) fun h1 h2=>?_
  have h2:=ne2 gk h1 (by simp)
  exact ⟨h2,fun n=>EV h2 h1 (by decide) (by simp)⟩
 | any =>
  simp only [Rest.num,Option.some.injEq] at hn;subst hn
  exact ⟨by decide,fun n=>MM gk⟩
 | tup rt' els tl =>
  simp only [Rest.num,Option.some.injEq] at hn;subst hn
  refine oA (hr.tup _ _ _ rfl) fun h1 _=>?_
  have h2:=ne2 gk h1 (by simp [Al])
  exact ⟨h2,fun n=>EV h2 h1 (by decide) (by simp)⟩
theorem GC {n m:Nat} {own:PV} {g:G} {i:Nat} {s:Sg} (gk:GK m g) (h:FO own g i s):AA (n+2) (.fn 39) [.host,.imm (AN own s)] g=some (.imm (.tup (s.rest.num.toList.map fun rt:Nat=>PV.int rt)),g):=by
 cases hn:s.rest.num with
 | none=>exact Qp h.len hn
 | some rt =>
  refine oA (TB gk h.rest hn) fun h1 h2=>?_
  exact Qo h.len hn h1 (h2 n)
theorem WI {C:VC} {own:PV} {g:G} {s:Sg} (hl:s.fx.length≤3) {i:Nat} {p:Pl} (hp:s.fx[i]?=some p) {a b c:Option VS}:GG g (.imm (.tup (s.fx.map pv++s.restP))) (vi i)=some (.imm (pv p)):=by
 have hi:=(gI hp).1
 refine C9 ?_ ?_
 ·have:s.restP.length≤1:=by unfold Sg.restP;split<;>simp
  simp;omega
 ·rw [List.getElem?_append_left (by simpa using hi),List.getElem?_map,hp];rfl
theorem G1 {n m:Nat} {own:PV} {g:G} {si:Nat} {s:Sg} (gk:GK m g) (hm:m≤1000) (h:FO own g si s) (i:Nat) :
  Rs (AA (n+9) (.fn 43) [.host,vi si,vi i] g) g m fun r g'=>RO g' r (s.at' i):=by
 let σ:VL:=[sv .host,sv (vi si),sv (vi i),sv (.imm (AN own s)),sv (vi (s.fx.length:Nat)),none,none,none,none,none,none]
 have start:∀ r g',Rt (AA (n+8)) (Ct.body.drop 2) σ g (vi r) g'→AA (n+9) (.fn 43) [.host,vi si,vi i] g=some (vi r,g'):=fun r g' hr =>
  AX (σ:=[sv .host,sv (vi si),sv (vi i),none,none,none,none,none,none,none,none]) rfl rfl (by decide)
   (AF (AE rfl) rfl (Af rfl (w:=.rws) (g1:=g) (k:=vi si) rfl rfl (Az h.row)) (AF (AE rfl) DP (AH rfl rfl (vs:=[.imm (AN own s)]) rfl (H5 h.len)) hr))
 have ec:∀ z,decide ((i:Int)<(s.fx.length:Nat))=z→VT (AA (n+8)) (.cmp .Lt (.loc 2) (.loc 4)) (VE (AA (n+8)) (.cmp .Lt (.loc 2) (.loc 4))) σ g=some (z,g):=fun z hz =>
  AK (x:=vi i) (y:=vi (s.fx.length:Nat)) rfl rfl (Fy hz)
 cases hp:s.fx[i]? with
 | some p =>
  have hi:=(gI hp).1
  have ea:s.at' i=some (Jm p):=by
   unfold Sg.at' Sg.pl
   rw [List.getElem?_append_left hi,hp]
  have kp:=h.fx p (List.mem_of_getElem? hp)
  have pre:∀ r g',Rt (AA (n+8)) [.ret (.ite (.cmp .Eq (.sub (.loc 7) (.int 2)) (.gl 88)) (.call (.gl 11) [.attr (.loc 0) 14,.loc 8]) (.loc 8))] [sv .host,sv (vi si),sv (vi i),sv (.imm (AN own s)),sv (vi (s.fx.length:Nat)),none,none,sv (.imm (pv p)),sv (vi p.t),none,none] g (vi r) g'→AA (n+9) (.fn 43) [.host,vi si,vi i] g=some (vi r,g'):=fun r g' hr =>
   start _ _ (Cm (AE rfl) (ec true (decide_eq_true (by omega))) (AF (AE rfl) rfl (Af rfl (w:=.imm (.tup (s.fx.map pv++s.restP))) (g1:=g) (k:=vi i) (by rfl) rfl (WI (C:=AA 0) (own:=own) (a:=none) (b:=none) (c:=none) h.len hp)) (AF (AE rfl) rfl (w:=vi p.t) (g1:=g) (by rfl) hr)))
  rw [ea]
  obtain ⟨nm,t,K,late⟩:=p
  cases late with
  | false=>exact ⟨t,g,pre _ _ (AS (AE rfl) (by rfl)),.refl,gk,kp⟩
  | true =>
   obtain ⟨t',g',h1,h2,h3,h4⟩:=v_add (n:=n+4) gk hm kp
   exact ⟨t',g',pre _ _ (AS (AE rfl) (A9 (t:=true) (g1:=g) (by rfl) (AH rfl rfl (vs:=[.tab,vi t]) rfl h1))),h2,h3,h4⟩
 | none =>
  have hi:=List.getElem?_eq_none_iff.mp hp
  have ea:s.at' i=match s.rest.els[i-s.fx.length]? with | some p=>some (Jm p) | none=>s.rest.tail:=by
   unfold Sg.at' Sg.pl
   rw [List.getElem?_append_right hi]
  have erp:VE (AA (n+8)) (.call (.gl 89) [.loc 0,.loc 3]) σ g=some (.imm (.tup (s.rest.num.toList.map fun rt:Nat=>PV.int rt)),g):=AH rfl rfl (vs:=[.host,.imm (AN own s)]) rfl (GC gk h)
  cases hn:s.rest.num with
  | none =>
   have:s.rest=.no:=by
    cases hr:s.rest<;>rw [hr] at hn<;>simp [Rest.num] at hn
   refine ⟨-1,g,start _ _ (As (AE rfl) (ec false (decide_eq_false (by omega))) ?_),.refl,gk,?_⟩
   ·rw [hn] at erp
    refine AF (AE rfl) rfl (BO erp rfl rfl) ?_
    refine AF (AE rfl) rfl (w:=.lst []) (g1:=g) (by rfl) ?_
    exact AS (AE rfl) (by rfl)
   ·rw [ea,this];rfl
  | some rt =>
   rw [hn] at erp
   obtain ⟨t,g1,h1,h2,h3,h4⟩:=SA (n:=n) gk hm h.rest hn (i-s.fx.length)
   rw [←ea] at h4
   have ef:VE (AA (n+8)) (.comp (.call (.gl 90) [.loc 0,.loc 9,.bin .Sub (.loc 2) (.loc 4)]) (.one 9) (.call (.gl 89) [.loc 0,.loc 3]) (.bool true)) σ g=some (.lst [vi t],g1):=by
    refine BO erp (its:=[vi rt]) rfl (Ua (σ':=[sv .host,sv (vi si),sv (vi i),sv (.imm (AN own s)),sv (vi (s.fx.length:Nat)),none,none,none,none,sv (vi rt),none]) (g1:=g) rfl rfl ?_)
    refine AH rfl rfl (vs:=[.host,vi rt,vi ((i-s.fx.length:Nat):Int)]) (AB (v:=.host) (g1:=g) rfl (AB (v:=vi rt) (g1:=g) rfl (AB (Aj (x:=vi i) (y:=vi (s.fx.length:Nat)) (g1:=g) (g2:=g) rfl rfl ?_) AR))) h1
    show some (vi ((i:Int)-(s.fx.length:Nat)))=_
    congr 3
    omega
   have σf:∀ r g',Rt (AA (n+8)) (Ct.body.drop 4) [sv .host,sv (vi si),sv (vi i),sv (.imm (AN own s)),sv (vi (s.fx.length:Nat)),sv (.lst [vi t]),none,none,none,none,none] g1 (vi r) g'→AA (n+9) (.fn 43) [.host,vi si,vi i] g=some (vi r,g'):=fun r g' hr =>
    start _ _ (As (AE rfl) (ec false (decide_eq_false (by omega))) (AF (AE rfl) rfl ef hr))
   have ge:∀ z,decide (0≤t)=z→VT (AA (n+8)) (.cmp .GtE (.loc 10) (.int 0)) (VE (AA (n+8)) (.cmp .GtE (.loc 10) (.int 0))) [sv .host,sv (vi si),sv (vi i),sv (.imm (AN own s)),sv (vi (s.fx.length:Nat)),sv (.lst [vi t]),none,none,none,none,sv (vi t)] g1=some (z,g1):=fun z hz =>
    AK (x:=vi t) (y:=vi 0) rfl rfl (EA hz)
   cases ho:s.at' i with
   | none =>
    rw [ho] at h4
    have h4:t=-1:=h4
    subst h4
    refine ⟨-1,g1,σf _ _ ?_,h2,h3,rfl⟩
    refine AF (AE rfl) rfl (w:=.lst []) (g1:=g1) (by rfl) ?_
    exact AS (AE rfl) (by rfl)
   | some K =>
    rw [ho] at h4
    have h4:Kd g1 t K:=h4
    have t0:0≤t:=by
     refine Or.elim (h4.rep) (fun z0=>oA z0 fun _ e=>?_) fun z2=>Or.elim z2 (fun e=>?_) fun z1=>oAEA z1 fun _ j e _=>?_
     ·omega
     ·refine oEEAAA (Da t (Ae.mp (by rw [e];exact .head _:t∈toS K)).1) fun _ _ _ _ h0 _=>?_
      exact h0
     ·omega
    obtain ⟨t',g',q1,q2,q3,q4⟩:=E3 (n:=n+5) (w:=.lst [vi t]) h3 hm (ts:=[t]) rfl (.cons h4 .nil)
    refine ⟨t',g',σf _ _ ?_,h2.trans q2,q3,q4.congr (TW h4)⟩
    refine AF (AE rfl) rfl (BO (w:=.lst [vi t]) (g1:=g1) (its:=[vi t]) rfl rfl (Ua (σ':=[sv .host,sv (vi si),sv (vi i),sv (.imm (AN own s)),sv (vi (s.fx.length:Nat)),sv (.lst [vi t]),none,none,none,none,sv (vi t)]) (g1:=g1) rfl (ge true (decide_eq_true t0)) (y:=vi t) (g2:=g1) (by rfl))) ?_
    refine AS (AE rfl) (A9 (t:=true) (g1:=g1) (by rfl) (AH rfl rfl (vs:=[.tab,.lst [vi t]]) rfl q1))
noncomputable def wneed (s:Sg):Nat:=if 0<HV s.rest.els then s.fx.length+HV s.rest.els else Aw (s.fx.map Pl.late)
noncomputable def T5:Option Kn→Bool
 | some K=>K 3
 | none=>false
noncomputable def IV (f:Nat→Option Kn):Nat→Nat
 | 0=>0
 | n+1=>if T5 (f n) then IV f n else n+1
noncomputable def CI (s:Sg):Nat:=IV s.at' (wneed s)
theorem Ic {m:Nat} {own:PV} {g:G} {si:Nat} {s:Sg} (gk:GK m g) (h:FO own g si s) {rt:Nat} (hn:s.rest.num=some rt) :
  (∃ els tl,s.rest=.tup rt els tl∧g.rows[rt]?=some (Al els tl)∧els.length≤2)∨∃ k x,g.rows[rt]?=some (.tup (.int k::x))∧k≠12∧x.length≤10∧s.rest.els=[]∧s.rest.tail.isSome=true:=by
 cases hr:s.rest with
 | no=>rw [hr] at hn;simp [Rest.num] at hn
 | arr rt' ro t K =>
  rw [hr] at hn;simp only [Rest.num,Option.some.injEq] at hn;subst hn
  exact .inr ⟨_,_,(h.rest.arr _ _ _ _ hr).1,by decide,by simp,rfl,rfl⟩
 | any =>
  rw [hr] at hn;simp only [Rest.num,Option.some.injEq] at hn;subst hn
  exact .inr ⟨_,_,gk.row (r:=.tup [.int 1,.str (sO "any")]) rfl,by decide,by simp,rfl,rfl⟩
 | tup rt' els tl =>
  rw [hr] at hn;simp only [Rest.num,Option.some.injEq] at hn;subst hn
  refine Mr (h.rest.tup _ _ _ hr) fun h1 _ _ h4 _=>?_
  exact .inl ⟨els,tl,rfl,h1,h4⟩
theorem Qn {n m:Nat} {own:PV} {g:G} {si:Nat} {s:Sg} (gk:GK m g) (h:FO own g si s):AA (n+3) (.fn 46) [.host,vi si] g=some (vi (wneed s:Nat),g):=by
 have erp:VE (AA (n+2)) (.call (.gl 89) [.loc 0,.loc 2]) [sv .host,sv (vi si),sv (.imm (AN own s)),some (.own []),none,none,none] g=some (.imm (.tup (s.rest.num.toList.map fun rt:Nat=>PV.int rt)),g):=AH rfl rfl (vs:=[.host,.imm (AN own s)]) rfl (GC gk h)
 have start:∀ r,Rt (AA (n+2)) (Bt.body.drop 2) [sv .host,sv (vi si),sv (.imm (AN own s)),some (.own []),none,none,none] g (vi r) g→AA (n+3) (.fn 46) [.host,vi si] g=some (vi r,g):=fun r hr =>
  AX (σ:=[sv .host,sv (vi si),none,none,none,none,none]) rfl rfl (by decide) (AF (AE rfl) rfl (Af rfl (w:=.rws) (g1:=g) (k:=vi si) rfl rfl (Az h.row)) (B5 (AE rfl) rfl hr))
 have fin:∀ (l:Nat) (L:VV) (a b:Option VS),Rt (AA (n+2)) [.ret (.ite (.cmp .Gt (.loc 5) (.int 0)) (.bin .Add (.call (.gl 87) [.loc 2]) (.loc 5)) (.call (.gl 97) [.loc 2]))] [sv .host,sv (vi si),sv (.imm (AN own s)),sv L,a,sv (vi l),b] g (vi ((if 0<l then s.fx.length+l else Aw (s.fx.map Pl.late):Nat):Int)) g:=by
  intro l L a b
  refine AS rfl ?_
  by_cases hl:0<l
  ·rw [if_pos hl]
   refine A9 (t:=true) (g1:=g) (AK (x:=vi l) (y:=vi 0) rfl rfl (cmp_gt (decide_eq_true (by omega)))) ?_
   exact Aj (x:=vi (s.fx.length:Nat)) (y:=vi l) (g1:=g) (g2:=g) (AH rfl rfl (vs:=[.imm (AN own s)]) rfl (H5 h.len)) rfl rfl
  ·rw [if_neg hl]
   refine A9 (t:=false) (g1:=g) (AK (x:=vi l) (y:=vi 0) rfl rfl (cmp_gt (decide_eq_false (by omega)))) ?_
   exact AH rfl rfl (vs:=[.imm (AN own s)]) rfl (XV h.len)
 cases hn:s.rest.num with
 | none =>
  have:s.rest.els=[]:=by cases hr:s.rest<;>rw [hr] at hn<;>simp [Rest.num] at hn<;>rfl
  rw [hn] at erp
  have hw:wneed s=if 0<0 then s.fx.length+0 else Aw (s.fx.map Pl.late):=by unfold wneed;rw [this];rfl
  rw [hw]
  refine start _ (Ai rfl erp rfl BA ?_)
  refine AF (σ0:=[sv .host,sv (vi si),sv (.imm (AN own s)),sv (.lst []),none,none,none]) (w:=vi 0) (g1:=g) rfl rfl (by rfl) ?_
  exact fin 0 _ _ _
 | some rt =>
  rw [hn] at erp
  have row:∀ x,g.rows[rt]?=some x→VE (AA (n+2)) (.sub (.attr (.attr (.loc 0) 14) 4) (.loc 4)) [sv .host,sv (vi si),sv (.imm (AN own s)),some (.own []),sv (vi rt),none,none] g=some (.imm x,g):=fun x hx =>
   Af rfl (w:=.rws) (g1:=g) (k:=vi rt) rfl rfl (Az hx)
  have last:∀ (x:PV) (l:Nat),g.rows[rt]?=some x→VE (AA (n+2)) (.ite (.cmp .Eq (.sub (.loc 6) (.int 0)) (.gl 18)) (.call (.gl 95) [.loc 6]) (.int 0)) [sv .host,sv (vi si),sv (.imm (AN own s)),some (.own []),sv (vi rt),none,sv (.imm x)] g=some (vi l,g) →
    AA (n+3) (.fn 46) [.host,vi si] g=some (vi ((if 0<l then s.fx.length+l else Aw (s.fx.map Pl.late):Nat):Int),g):=by
   intro x l hx he
   refine start _ (Ai rfl erp (its:=[vi rt]) rfl (σ2:=[sv .host,sv (vi si),sv (.imm (AN own s)),some (.own [vi l]),sv (vi rt),none,sv (.imm x)]) (g2:=g) (Ab (σ1:=[sv .host,sv (vi si),sv (.imm (AN own s)),some (.own []),sv (vi rt),none,none]) rfl (AD (AO rfl rfl (row x hx)) (AD (Ao (l:=[]) rfl he rfl (by simp)) AG)) BA) ?_)
   refine AF (σ0:=[sv .host,sv (vi si),sv (.imm (AN own s)),sv (.lst [vi l]),sv (vi rt),none,sv (.imm x)]) (w:=vi l) (g1:=g) rfl rfl (by rfl) ?_
   exact fin l _ _ _
  refine Or.elim (Ic gk h hn) (fun z0=>oEEAA z0 fun els tl h1 h2 h3=>?_) fun z4=>oEEAAAA z4 fun k x h1 h2 h3 h4 h5=>?_
  ·have hw:wneed s=if 0<HV els then s.fx.length+HV els else Aw (s.fx.map Pl.late):=by unfold wneed;rw [h1];rfl
   rw [hw]
   exact last _ _ h2 (A9 (t:=true) (g1:=g) (by rfl) (AH rfl rfl (vs:=[.imm (Al els tl)]) rfl (VA h3)))
  ·have hw:wneed s=if 0<0 then s.fx.length+0 else Aw (s.fx.map Pl.late):=by unfold wneed;rw [h4];rfl
   rw [hw]
   exact last _ 0 h1 (A9 (t:=false) (g1:=g) (AK (x:=vi k) (y:=vi 12) (Af rfl rfl rfl (C9 (i:=0) (by simp;omega) rfl)) rfl (Ak (decide_eq_false h2))) rfl)
theorem Gg:∀ l:List Bool,Aw l≤l.length
 | []=>Nat.le_refl _
 | b::l=>by
  have:=Gg l
  unfold Aw
  split
  ·simp;omega
  ·split<;>simp
theorem Ta (els:List Pl):HV els≤els.length:=List.length_filter_le _ _
theorem IN (s:Sg):wneed s≤s.pl.length:=by
 unfold wneed Sg.pl
 have:=Gg (s.fx.map Pl.late)
 have:=Ta s.rest.els
 simp at *
 split<;>omega
theorem Qb (s:Sg) {i:Nat} (h:i<s.pl.length):∃ p,s.pl[i]?=some p∧s.at' i=some (Jm p):=by
 refine ⟨s.pl[i],List.getElem?_eq_getElem h,?_⟩
 unfold Sg.at'
 rw [List.getElem?_eq_getElem h]
noncomputable abbrev Tc:PE:=.bop .And [.cmp .Gt (.loc 2) (.int 0),.cmp .In (.gl 93) (.call (.gl 38) [.attr (.loc 0) 14,.call (.gl 94) [.loc 0,.loc 1,.bin .Sub (.loc 2) (.int 1)]])]
theorem KO {n m:Nat} {own:PV} {si:Nat} {s:Sg} (hm:m≤1000):∀ (w k:Nat) (g:G),w<k→w≤s.pl.length→GK m g→FO own g si s →
  ∃ g',CO (VT (AA (n+9)) Tc (VE (AA (n+9)) Tc)) (locs Tc) (Bv (AA (n+9)) [.aug 2 .Sub (.int 1)]) k [sv .host,sv (vi si),sv (vi w)] g
   = some (.next,[sv .host,sv (vi si),sv (vi (IV s.at' w:Nat))],g')∧C3 g g'∧GK m g'
 | 0,k+1,g,_,_,gk,h=>by
  refine ⟨g,?_,.refl,gk⟩
  simp only [CO]
  rw [AE rfl,A6 (g1:=g) (by rfl)]
  rfl
 | w+1,k+1,g,hk,hw,gk,h=>by
  refine oEA (Qb s (i:=w) (by omega)) fun p h1 h2=>?_
  obtain ⟨r,g',q1,q2,q3,q4⟩:=G1 (n:=n) gk hm h w
  have hs:GG g' (vi 0) (vi 0)=none:=rfl
  have e1:VT (AA (n+9)) (.cmp .Gt (.loc 2) (.int 0)) (VE (AA (n+9)) (.cmp .Gt (.loc 2) (.int 0))) [sv .host,sv (vi si),sv (vi (w+1:Nat))] g=some (true,g):=AK (x:=vi (w+1:Nat)) (y:=vi 0) rfl rfl (cmp_gt (decide_eq_true (by omega)))
  rw [h2] at q4
  have q4:Kd g' r (Jm p):=q4
  have e2:VT (AA (n+9)) (.cmp .In (.gl 93) (.call (.gl 38) [.attr (.loc 0) 14,.call (.gl 94) [.loc 0,.loc 1,.bin .Sub (.loc 2) (.int 1)]])) (VE (AA (n+9)) (.cmp .In (.gl 93) (.call (.gl 38) [.attr (.loc 0) 14,.call (.gl 94) [.loc 0,.loc 1,.bin .Sub (.loc 2) (.int 1)]]))) [sv .host,sv (vi si),sv (vi (w+1:Nat))] g=some (Jm p 3,g'):=by
   refine AK (x:=vi 3) (y:=.imm (.tup ((toS (Jm p)).map .int))) (g1:=g) rfl ?_ (Lr (by rw [Bool.eq_iff_iff];simp [Ae,AI]))
   refine AH rfl rfl (vs:=[.tab,vi r]) (AB (v:=.tab) (g1:=g) rfl (AB (AH rfl rfl (vs:=[.host,vi si,vi w]) (g1:=g) (AB (v:=.host) (g1:=g) rfl (AB (v:=vi si) (g1:=g) rfl (AB (Aj (x:=vi (w+1:Nat)) (y:=vi 1) (g1:=g) (g2:=g) rfl rfl ?_) AR))) q1) AR)) (Dd q3 q4)
   show some (vi (((w+1:Nat):Int)-1))=_
   congr 3;omega
  have hv:T5 (s.at' w)=Jm p 3:=by rw [h2];rfl
  simp only [CO]
  have e3:VT (AA (n+9)) (.bop .And [.cmp .In (.gl 93) (.call (.gl 38) [.attr (.loc 0) 14,.call (.gl 94) [.loc 0,.loc 1,.bin .Sub (.loc 2) (.int 1)]])]) (VE (AA (n+9)) (.bop .And [.cmp .In (.gl 93) (.call (.gl 38) [.attr (.loc 0) 14,.call (.gl 94) [.loc 0,.loc 1,.bin .Sub (.loc 2) (.int 1)]])])) [sv .host,sv (vi si),sv (vi (w+1:Nat))] g=some (Jm p 3,g'):=by
   cases hz:Jm p 3 with
   | false=>rw [hz] at e2;exact A6 e2
   | true=>rw [hz] at e2;exact A5 e2 DQ
  rw [AE rfl,A5 e1 e3]
  rw [Option.bind_some]
  simp only [IV,hv]
  cases hz:Jm p 3 with
  | false=>exact ⟨g',by simp,q2,q3⟩
  | true =>
   refine oEAA (KO (n:=n) hm w k g' (by omega) (by omega) q3 (h.ext q2)) fun g'' z1 z2 z3=>?_
   refine ⟨g'',?_,q2.trans z2,z3⟩
   have ex:Bv (AA (n+9)) [.aug 2 .Sub (.int 1)] [sv .host,sv (vi si),sv (vi (w+1:Nat))] g'=some (.next,[sv .host,sv (vi si),sv (vi w)],g'):=by
    refine AD (σ1:=[sv .host,sv (vi si),sv (vi (((w+1:Nat):Int)-1))]) (g1:=g') (by rfl) ?_
    rw [show ((w+1:Nat):Int)-1=w by omega];exact AG
   simp only [if_true]
   rw [ex,Option.bind_some]
   exact z1
theorem SB {n m:Nat} {own:PV} {g:G} {si:Nat} {s:Sg} (gk:GK m g) (hm:m≤1000) (h:FO own g si s):∃ g',AA (n+10) (.fn 45) [.host,vi si] g=some (vi (CI s:Nat),g')∧C3 g g'∧GK m g':=by
 have hw:=IN s
 have hp:s.pl.length≤5:=by
  unfold Sg.pl
  have:=h.len
  cases hr:s.rest with
  | tup rt els tl =>
   have:=(h.rest.tup _ _ _ hr).2.2.2.1
   simp [Rest.els];omega
  | _=>simp [Rest.els];omega
 refine oEAA (KO (n:=n) hm (wneed s) 64 g (by omega) hw gk h) fun g' q1 q2 q3=>?_
 refine ⟨g',?_,q2,q3⟩
 refine AX (σ:=[sv .host,sv (vi si),none]) rfl rfl (by decide) (AF (AE rfl) DP (AH rfl rfl (vs:=[.host,vi si]) rfl (Qn (n:=n+6) gk h)) (Av q1 (AS (AE rfl) (by rfl))))
theorem XU {n m:Nat} {own:PV} {g:G} {si:Nat} {s:Sg} (gk:GK m g) (h:FO own g si s):AA (n+3) (.fn 47) [.host,vi si] g=some (vi (if s.rest.tail.isSome then -1 else (s.pl.length:Nat)),g):=by
 have erp:VE (AA (n+2)) (.call (.gl 89) [.loc 0,.loc 2]) [sv .host,sv (vi si),sv (.imm (AN own s)),sv (vi 0),none,none,none] g=some (.imm (.tup (s.rest.num.toList.map fun rt:Nat=>PV.int rt)),g):=AH rfl rfl (vs:=[.host,.imm (AN own s)]) rfl (GC gk h)
 have start:∀ r,Rt (AA (n+2)) (CX.body.drop 2) [sv .host,sv (vi si),sv (.imm (AN own s)),sv (vi 0),none,none,none] g (vi r) g→AA (n+3) (.fn 47) [.host,vi si] g=some (vi r,g):=fun r hr =>
  AX (σ:=[sv .host,sv (vi si),none,none,none,none,none]) rfl rfl (by decide) (AF (AE rfl) rfl (Af rfl (w:=.rws) (g1:=g) (k:=vi si) rfl rfl (Az h.row)) (AF (AE rfl) rfl (w:=vi 0) (g1:=g) rfl hr))
 have fin:∀ (l:Nat) (a b c:Option VS),Rt (AA (n+2)) [.ret (.bin .Add (.call (.gl 87) [.loc 2]) (.loc 3))] [sv .host,sv (vi si),sv (.imm (AN own s)),sv (vi l),a,b,c] g (vi ((s.fx.length+l:Nat):Int)) g:=fun l a b c =>
  AS rfl (Aj (x:=vi (s.fx.length:Nat)) (y:=vi l) (g1:=g) (g2:=g) (AH rfl rfl (vs:=[.imm (AN own s)]) rfl (H5 h.len)) rfl rfl)
 cases hn:s.rest.num with
 | none =>
  have:s.rest.els=[]∧s.rest.tail=none:=by cases hr:s.rest<;>rw [hr] at hn<;>simp [Rest.num] at hn<;>exact ⟨rfl,rfl⟩
  rw [hn] at erp
  have hw:(if s.rest.tail.isSome then (-1:Int) else (s.pl.length:Nat))=((s.fx.length+0:Nat):Int):=by
   unfold Sg.pl;rw [this.1,this.2];simp
  rw [hw]
  exact start _ (Ai rfl erp rfl BA (fin 0 _ _ _))
 | some rt =>
  rw [hn] at erp
  have row:∀ x,g.rows[rt]?=some x→VE (AA (n+2)) (.sub (.attr (.attr (.loc 0) 14) 4) (.loc 4)) [sv .host,sv (vi si),sv (.imm (AN own s)),sv (vi 0),sv (vi rt),none,none] g=some (.imm x,g):=fun x hx =>
   Af rfl (w:=.rws) (g1:=g) (k:=vi rt) rfl rfl (Az hx)
  have last:∀ (x:PV) (l:Int),g.rows[rt]?=some x→VE (AA (n+2)) (.ite (.cmp .Eq (.sub (.loc 5) (.int 0)) (.gl 18)) (.call (.gl 98) [.loc 5]) (.int (-1))) [sv .host,sv (vi si),sv (.imm (AN own s)),sv (vi 0),sv (vi rt),sv (.imm x),none] g=some (vi l,g) →
    (l=-1∨0≤l)→AA (n+3) (.fn 47) [.host,vi si] g=some (vi (if l<0 then -1 else ((s.fx.length+l.toNat:Nat):Int)),g):=by
   intro x l hx he hl
   let σ2:VL:=[sv .host,sv (vi si),sv (.imm (AN own s)),sv (vi 0),sv (vi rt),sv (.imm x),sv (vi l)]
   rcases hl with rfl | hl
   ·refine start _ (Ig rfl erp (its:=[vi rt]) rfl (σ2:=σ2) (KZ (σ1:=[sv .host,sv (vi si),sv (.imm (AN own s)),sv (vi 0),sv (vi rt),none,none]) rfl (AD (AO rfl rfl (row x hx)) (AD (AO rfl rfl he) (ES (Ag (σ0:=σ2) (b:=true) rfl (by rfl) (ES rfl)))))))
   ·rw [if_neg (by omega)]
    refine start _ (Ai rfl erp (its:=[vi rt]) rfl (σ2:=[sv .host,sv (vi si),sv (.imm (AN own s)),sv (vi l.toNat),sv (vi rt),sv (.imm x),sv (vi l)]) (g2:=g) (Ab (σ1:=[sv .host,sv (vi si),sv (.imm (AN own s)),sv (vi 0),sv (vi rt),none,none]) rfl (AD (AO rfl rfl (row x hx)) (AD (AO rfl rfl he) (AD (Ag (σ0:=σ2) (b:=false) rfl (AK (x:=vi l) (y:=vi 0) rfl rfl (Fy (decide_eq_false (by omega)))) AG) (AD (AO (w:=vi l.toNat) (g1:=g) rfl rfl (BH rfl rfl (vs:=[vi 0,vi l]) rfl ?_)) AG)))) BA) (fin _ _ _ _))
    show some (vi (if (0:Int)<l then l else 0))=_
    congr 3
    split<;>omega
  refine Or.elim (Ic gk h hn) (fun z0=>oEEAA z0 fun els tl h1 h2 h3=>?_) fun z4=>oEEAAAA z4 fun k x h1 h2 h3 h4 h5=>?_
  ·have:=last _ _ h2 (A9 (t:=true) (g1:=g) (by rfl) (AH rfl rfl (vs:=[.imm (Al els tl)]) rfl (VB h3))) (by split<;>omega)
   rw [this,h1]
   unfold Sg.pl
   rw [h1]
   cases tl
   ·simp only [Rest.tail,Rest.els,Option.map_none,Option.isSome_none,Bool.false_eq_true,if_false,List.length_append]
    rw [if_neg (by omega)];congr 4
   ·rfl
  ·have:=last _ (-1) h1 (A9 (t:=false) (g1:=g) (AK (x:=vi k) (y:=vi 12) (Af rfl rfl rfl (C9 (i:=0) (by simp;omega) rfl)) rfl (Ak (decide_eq_false h2))) rfl) (.inl rfl)
   rw [this,h5];rfl
theorem U9 {n m:Nat} {own:PV} {g:G} {si:Nat} {s:Sg} (gk:GK m g) (h:FO own g si s):AA (n+3) (.fn 48) [.host,vi si] g=some (vi (s.pl.length:Nat),g):=by
 have erp:VE (AA (n+2)) (.call (.gl 89) [.loc 0,.loc 2]) [sv .host,sv (vi si),sv (.imm (AN own s)),some (.own []),none,none] g=some (.imm (.tup (s.rest.num.toList.map fun rt:Nat=>PV.int rt)),g):=AH rfl rfl (vs:=[.host,.imm (AN own s)]) rfl (GC gk h)
 have start:∀ r,Rt (AA (n+2)) (CW.body.drop 2) [sv .host,sv (vi si),sv (.imm (AN own s)),some (.own []),none,none] g (vi r) g→AA (n+3) (.fn 48) [.host,vi si] g=some (vi r,g):=fun r hr =>
  AX (σ:=[sv .host,sv (vi si),none,none,none,none]) rfl rfl (by decide) (AF (AE rfl) rfl (Af rfl (w:=.rws) (g1:=g) (k:=vi si) rfl rfl (Az h.row)) (B5 (AE rfl) rfl hr))
 have fin:∀ (l:Nat) (L:List VV) (a b:Option VS),VE (AA (n+2)) (.ite (.loc 3) (.call (.gl 96) [.loc 3]) (.int 0)) [sv .host,sv (vi si),sv (.imm (AN own s)),sv (.lst L),a,b] g=some (vi l,g)→Rt (AA (n+2)) [.ret (.bin .Add (.call (.gl 87) [.loc 2]) (.ite (.loc 3) (.call (.gl 96) [.loc 3]) (.int 0)))] [sv .host,sv (vi si),sv (.imm (AN own s)),some (.own L),a,b] g (vi ((s.fx.length+l:Nat):Int)) g:=fun l L a b he =>
  AS (σ0:=[sv .host,sv (vi si),sv (.imm (AN own s)),sv (.lst L),a,b]) rfl (Aj (x:=vi (s.fx.length:Nat)) (y:=vi l) (g1:=g) (g2:=g) (AH rfl rfl (vs:=[.imm (AN own s)]) rfl (H5 h.len)) he rfl)
 cases hn:s.rest.num with
 | none =>
  have:s.rest.els=[]:=by cases hr:s.rest<;>rw [hr] at hn<;>simp [Rest.num] at hn<;>rfl
  rw [hn] at erp
  have hw:s.pl.length=s.fx.length+0:=by unfold Sg.pl;rw [this];simp
  rw [hw]
  exact start _ (Ai rfl erp rfl BA (fin 0 [] _ _ (by rfl)))
 | some rt =>
  rw [hn] at erp
  have row:∀ x,g.rows[rt]?=some x→VE (AA (n+2)) (.sub (.attr (.attr (.loc 0) 14) 4) (.loc 4)) [sv .host,sv (vi si),sv (.imm (AN own s)),some (.own []),sv (vi rt),none] g=some (.imm x,g):=fun x hx =>
   Af rfl (w:=.rws) (g1:=g) (k:=vi rt) rfl rfl (Az hx)
  have last:∀ (x:PV) (l:Nat),g.rows[rt]?=some x→VE (AA (n+2)) (.ite (.cmp .Eq (.sub (.loc 5) (.int 0)) (.gl 18)) (.call (.gl 81) [.loc 5]) (.int 0)) [sv .host,sv (vi si),sv (.imm (AN own s)),some (.own []),sv (vi rt),sv (.imm x)] g=some (vi l,g) →
    AA (n+3) (.fn 48) [.host,vi si] g=some (vi ((s.fx.length+l:Nat):Int),g):=by
   intro x l hx he
   exact start _ (Ai rfl erp (its:=[vi rt]) rfl (σ2:=[sv .host,sv (vi si),sv (.imm (AN own s)),some (.own [vi l]),sv (vi rt),sv (.imm x)]) (g2:=g) (Ab (σ1:=[sv .host,sv (vi si),sv (.imm (AN own s)),some (.own []),sv (vi rt),none]) rfl (AD (AO rfl rfl (row x hx)) (AD (Ao (l:=[]) rfl he rfl (by simp)) AG)) BA) (fin l [vi l] _ _ (by rfl)))
  refine Or.elim (Ic gk h hn) (fun z0=>oEEAA z0 fun els tl h1 h2 h3=>?_) fun z4=>oEEAAAA z4 fun k x h1 h2 h3 h4 h5=>?_
  ·have:=last _ _ h2 (A9 (t:=true) (g1:=g) (by rfl) (AH rfl rfl (vs:=[.imm (Al els tl)]) rfl (R9 h3)))
   rw [this]
   unfold Sg.pl
   rw [h1];simp [Rest.els]
  ·have:=last _ 0 h1 (A9 (t:=false) (g1:=g) (AK (x:=vi k) (y:=vi 12) (Af rfl rfl rfl (C9 (i:=0) (by simp;omega) rfl)) rfl (Ak (decide_eq_false h2))) rfl)
   rw [this]
   unfold Sg.pl
   rw [h4];simp
inductive EE (own:PV) (g:G):List Nat→List Sg→Prop
 | nil:EE own g [] []
 | cons {i s is ss}:FO own g i s→EE own g is ss→EE own g (i::is) (s::ss)
theorem EE.nil_ {own:PV} {g:G} {ss:List Sg} (h:EE own g [] ss):ss=[]:=by cases h;rfl
theorem EE.cons_ {own:PV} {g:G} {i:Nat} {is:List Nat} {ss:List Sg} (h:EE own g (i::is) ss):∃ s r,ss=s::r∧FO own g i s∧EE own g is r:=by cases h with | cons a b=>exact ⟨_,_,rfl,a,b⟩
theorem EE.ext {own:PV} {g g':G} (e:C3 g g') {is:List Nat} {ss:List Sg} (h:EE own g is ss):EE own g' is ss:=by
 induction h with
 | nil=>exact .nil
 | cons a _ ih=>exact .cons (a.ext e) ih
theorem EE.len {own:PV} {g:G} {is:List Nat} {ss:List Sg} (h:EE own g is ss):is.length=ss.length:=by
 induction h with
 | nil=>rfl
 | cons _ _ ih=>exact congrArg (·+1) ih
noncomputable abbrev vn (i:Nat):VV:=vi (i:Int)
theorem Ks.snoc {g:G} {ts:List Int} {Kl:List Kn} {t:Int} {K:Kn} (hk:Ks g ts Kl) (h:Kd g t K):Ks g (ts++[t]) (Kl++[K]):=by
 induction hk with
 | nil=>exact .cons h .nil
 | cons a _ ih=>exact .cons a ih
theorem Ks.filter0 {m:Nat} {g:G} (gk:GK m g) {ts:List Int} {Kl:List Kn} (hk:Ks g ts Kl):Ks g (ts.filter fun t=>!decide (t=0)) (Kl.filter fun K=>!K 0):=by
 induction hk with
 | nil=>exact .nil
 | @cons t K _ _ a _ ih =>
  have h:=LT gk a
  cases hk:K 0 with
  | true =>
   have:t=0:=h.mpr hk
   simp only [List.filter_cons,this,hk,decide_true,Bool.not_true,Bool.false_eq_true,if_false]
   exact ih
  | false =>
   have:¬t=0:=fun e=>by rw [h.mp e] at hk;exact nT hk
   simp only [List.filter_cons,this,hk,decide_false,Bool.not_false,if_true]
   exact .cons a ih
theorem Kd.nonneg {g:G} {t:Int} {K:Kn} (h4:Kd g t K):0≤t:=by
 refine Or.elim (h4.rep) (fun z0=>oA z0 fun _ e=>?_) fun z7=>Or.elim z7 (fun e=>?_) fun z6=>oAEA z6 fun _ j e _=>?_
 ·omega
 ·refine oEEAAA (Da t (Ae.mp (by rw [e];exact .head _:t∈toS K)).1) fun _ _ _ _ h0 _=>?_
  exact h0
 ·omega
noncomputable def kinds (ss:List Sg) (i:Nat):List Kn:=ss.filterMap fun s=>s.at' i
noncomputable def Ah (ss:List Sg) (i:Nat):Option Kn :=
 if (kinds ss i).isEmpty then none else if ((kinds ss i).filter fun K=>!K 0).isEmpty then some (fun a=>a==0) else some (A3 ((kinds ss i).filter fun K=>!K 0))
theorem Ts {s:Sg} {ss:List Sg} {i:Nat} (h:s.at' i=none):kinds (s::ss) i=kinds ss i:=List.filterMap_cons_none h
theorem Tt {s:Sg} {ss:List Sg} {i:Nat} {K:Kn} (h:s.at' i=some K) {Kl:List Kn}:Kl++kinds (s::ss) i=Kl++[K]++kinds ss i:=(congrArg (Kl++·) (List.filterMap_cons_some (f:=fun s:Sg=>s.at' i) h)).trans (List.append_assoc Kl [K] (kinds ss i)).symm
theorem RN {n m:Nat} {own:PV} (hm:m≤1000) {σs:VV} {i:Nat} {x y z:Option VS}:∀ (is:List Nat) (ss:List Sg) (rs:List Int) (Kl:List Kn) (g:G),EE own g is ss→Ks g rs Kl→GK m g→rs.length+is.length≤100 →
  ∃ rs' g',BQ (VE (AA (n+9)) (.call (.gl 94) [.loc 0,.loc 5,.loc 2])) (VT (AA (n+9)) (.cmp .GtE (.call (.gl 94) [.loc 0,.loc 5,.loc 2]) (.int 0)) (VE (AA (n+9)) (.cmp .GtE (.call (.gl 94) [.loc 0,.loc 5,.loc 2]) (.int 0)))) (.one 5) [sv .host,sv σs,sv (vn i),x,y,none,z] (is.map vn) (rs.map vi) g
   = some (rs'.map vi,g')∧C3 g g'∧GK m g'∧Ks g' rs' (Kl++kinds ss i)∧rs'.length≤rs.length+is.length:=by
 intro is
 induction is with
 | nil =>
  intro ss rs Kl g hs hk gk _
  rw [hs.nil_]
  exact ⟨rs,g,rfl,.refl,gk,(List.append_nil Kl).symm▸hk,Nat.le_refl _⟩
 | cons si is ih =>
  intro ss rs Kl g hs hk gk hl
  obtain ⟨s,ss,rfl,h,hs⟩:=hs.cons_
  have hl:rs.length+is.length+1≤100:=hl
  obtain ⟨r1,g1,q1,q2,q3,q4⟩:=G1 (n:=n) gk hm h i
  have call:∀ {g r g'},AA (n+9) (.fn 43) [.host,vi si,vi i] g=some (vi r,g')→VE (AA (n+9)) (.call (.gl 94) [.loc 0,.loc 5,.loc 2]) [sv .host,sv σs,sv (vn i),x,y,sv (vn si),z] g=some (vi r,g'):=fun hc=>AH rfl rfl (vs:=[.host,vi si,vi i]) rfl hc
  cases ho:s.at' i with
  | none =>
   rw [ho] at q4
   cases (q4:r1=-1)
   obtain ⟨rs',g',z1,z2,z3,z4,z5⟩:=ih ss rs Kl g1 (hs.ext q2) (hk.ext q2) q3 (Nat.le_of_succ_le hl)
   exact ⟨rs',g',YT rfl (AK (x:=vi (-1)) (y:=vi 0) (call q1) rfl rfl) z1,q2.trans z2,z3,by rw [Ts ho];exact z4,Nat.le_succ_of_le z5⟩
  | some K =>
   rw [ho] at q4
   obtain ⟨r2,g2,p1,p2,p3,p4⟩:=G1 (n:=n) q3 hm (h.ext q2) i
   rw [ho] at p4
   obtain ⟨rs',g',z1,z2,z3,z4,z5⟩:=ih ss (rs++[r2]) (Kl++[K]) g2 ((hs.ext q2).ext p2) (((hk.ext q2).ext p2).snoc p4) p3 (by rw [List.length_append,List.length_singleton];omega)
   rw [List.map_append] at z1
   rw [List.length_append,List.length_singleton] at z5
   exact ⟨rs',g',PU rfl (AK (x:=vi r1) (y:=vi 0) (call q1) rfl (EA (decide_eq_true (Kd.nonneg (K:=K) q4)))) (call p1) (by rw [List.length_map];omega) z1,(q2.trans p2).trans z2,z3,by rw [Tt ho];exact z4,Nat.le_trans z5 (Nat.le_of_eq (Nat.add_right_comm _ _ _))⟩
theorem J8 {l:List VV} (h:l.length≤100000):Ch (.lst l)=some !l.isEmpty:=if_pos h
theorem Ky {n m:Nat} {own:PV} {g:G} {is:List Nat} {ss:List Sg} (gk:GK m g) (hm:m≤1000) (h:EE own g is ss) (hl:is.length≤10) (i:Nat) :
  Rs (AA (n+11) (.fn 49) [.host,.lst (is.map vn),vn i] g) g m fun r g'=>RO g' r (Ah ss i):=by
 refine oEEAAAA (RN (n:=n+1) hm (σs:=.lst (is.map vn)) (i:=i) (x:=none) (y:=none) (z:=none) is ss [] [] g h .nil gk (by simp;omega)) fun rs g1 q1 q2 q3 q4 q5=>?_
 simp only [List.nil_append] at q4
 simp only [List.length_nil,Nat.zero_add] at q5
 have start:∀ r g',Rt (AA (n+10)) (En.body.drop 1) [sv .host,sv (.lst (is.map vn)),sv (vn i),sv (.lst (rs.map vi)),none,none,none] g1 (vi r) g'→AA (n+11) (.fn 49) [.host,.lst (is.map vn),vn i] g=some (vi r,g'):=fun r g' hr =>
  AX (σ:=[sv .host,sv (.lst (is.map vn)),sv (vn i),none,none,none,none]) rfl rfl (by decide) (AF (AE rfl) rfl (BO (w:=.lst (is.map vn)) (g1:=g) (its:=is.map vn) rfl rfl q1) hr)
 have hlen:=q4.len
 have tl:∀ σ:VL,σ[3]?=some (sv (.lst (rs.map vi)))→VT (AA (n+10)) (.not (.loc 3)) (VE (AA (n+10)) (.not (.loc 3))) σ g1=some (rs.isEmpty,g1):=by
  intro σ hσ
  have:=v_not (C:=AA (n+10)) (e:=.loc 3) (σ:=σ) (g:=g1) (g1:=g1) (b:=!rs.isEmpty) (Jp (w:=.lst (rs.map vi)) rfl (Kf hσ) ((J8 (by simp;omega)).trans (by simp)))
  simpa using this
 cases rs with
 | nil =>
  have he:kinds ss i=[]:=List.length_eq_zero_iff.mp (by simpa using hlen.symm)
  refine ⟨-1,g1,start _ _ (Cm (AE rfl) (tl _ rfl) (AS (AE rfl) rfl)),q2,q3,?_⟩
  unfold Ah;rw [he];rfl
 | cons r0 rs0 =>
  have he:(kinds ss i).isEmpty=false:=by
   cases hk:kinds ss i with
   | nil=>rw [hk] at hlen;simp at hlen
   | cons=>rfl
  have hf:=q4.filter0 q3
  have start2:∀ r g',Rt (AA (n+10)) (En.body.drop 3) [sv .host,sv (.lst (is.map vn)),sv (vn i),sv (.lst ((r0::rs0).map vi)),sv (.lst (((r0::rs0).filter fun t=>!decide (t=0)).map vi)),none,none] g1 (vi r) g'→AA (n+11) (.fn 49) [.host,.lst (is.map vn),vn i] g=some (vi r,g'):=fun r g' hr=>by
   refine start _ _ (As (AE rfl) (tl _ rfl) (AF (AE rfl) rfl (BO (w:=.lst ((r0::rs0).map vi)) (g1:=g1) (its:=(r0::rs0).map vi) rfl rfl ?_) hr))
   exact Bl (fun t=>!decide (t=0)) vi vi (r0::rs0) [] (by simp at q5 ⊢;omega) fun t ht=>⟨_,rfl,AK (x:=vi t) (y:=vi 0) rfl rfl (CQ rfl),fun _=>rfl⟩
  generalize hF:(r0::rs0).filter (fun t=>!decide (t=0))=F at hf start2
  have hFl:F.length≤10:=by rw [←hF];exact Nat.le_trans (List.length_filter_le _ _) (by simp at q5 ⊢;omega)
  have hfl:=hf.len
  cases hc:F with
  | nil =>
   have he2:((kinds ss i).filter fun K=>!K 0)=[]:=List.length_eq_zero_iff.mp (by rw [←hfl,hc];rfl)
   rw [hc] at start2
   refine ⟨0,g1,start2 _ _ (AS (AE rfl) (by rfl)),q2,q3,?_⟩
   unfold Ah;rw [he,he2]
   exact A7 (by decide)
  | cons t0 F0 =>
   have he2:((kinds ss i).filter fun K=>!K 0).isEmpty=false:=by
    cases hk:((kinds ss i).filter fun K=>!K 0) with
    | nil=>rw [hk,hc] at hfl;simp at hfl
    | cons=>rfl
   obtain ⟨r,g',p1,p2,p3,p4⟩:=VK (n:=n) q3 hm hf (by omega) fun K hK=>by
    have:=(List.mem_filter.mp hK).2
    simpa using this
   refine ⟨r,g',start2 _ _ (AS (AE rfl) (A9 (t:=true) (g1:=g1) (Jp (w:=.lst (F.map vi)) rfl rfl ((J8 (by simp;omega)).trans (by rw [hc];rfl))) (AH rfl rfl (vs:=[.tab,.lst (F.map vi)]) rfl p1))),q2.trans p2,p3,?_⟩
   unfold Ah;rw [he,he2];exact p4
noncomputable def Bx (ss:List Sg):List Sg:=ss.filter fun s=>!decide (s.ret=4)||!decide (3∈ss.map Sg.ret)
theorem EE.ks {own:PV} {g:G} {is:List Nat} {ss:List Sg} (h:EE own g is ss):∀ s∈ss,Kd g s.ret s.RK:=by
 induction h with
 | nil=>exact fun _ h=>nL h
 | cons a _ ih=>exact fun s h=>(mC h).elim (fun e=>e▸a.ret) (ih s)
theorem Wz {g:G}:∀ (l:List Sg),(∀ s∈l,Kd g s.ret s.RK)→Ks g (l.map Sg.ret) (l.map Sg.RK)
 | [],_=>.nil
 | s::l,h=>.cons (h s (.head _)) (Wz l fun x hx=>h x (.tail _ hx))
theorem EE.rows {own:PV} {g:G}:∀ {is:List Nat} {ss:List Sg},EE own g is ss→∀ {C:VC} {a b c e:Option VS} (out:List VV),out.length+is.length≤1000 →
  BQ (VE C (.sub (.sub (.attr (.loc 0) 4) (.loc 3)) (.int 3))) (VT C (.bool true) (VE C (.bool true))) (.one 3) [sv .tab,a,b,c,e] (is.map vn) out g=some (out++ss.map fun s=>vi s.ret,g):=by
 intro is ss h
 induction h with
 | nil=>exact fun out _=>(List.append_nil out).symm▸rfl
 | @cons i s is ss h hs ih =>
  intro C a b c e out hl
  have he:VE C (.sub (.sub (.attr (.loc 0) 4) (.loc 3)) (.int 3)) [sv .tab,a,b,sv (vn i),e] g=some (vi s.ret,g) :=
   Af rfl (w:=.imm (AN own s)) (g1:=g) (k:=vi 3) (Af rfl (w:=.rws) (g1:=g) (k:=vi i) rfl rfl (Az h.row)) rfl rfl
  have hl:out.length+is.length+1≤1000:=hl
  exact PU rfl rfl he (by omega) ((ih (out++[vi s.ret]) (by rw [List.length_append,List.length_singleton];omega)).trans (by rw [List.append_assoc];rfl))
theorem Qq {n m:Nat} {own:PV} {g:G} {is:List Nat} {ss:List Sg} (gk:GK m g) (hm:m≤1000) (h:EE own g is ss) (hl:is.length≤10) :
  Rs (AA (n+4) (.fn 50) [.tab,.lst (is.map vn)] g) g m fun r g'=>Kd g' r (By (BS ((Bx ss).map Sg.RK))):=by
 have hlen:=h.len
 obtain ⟨r,g',p1,p2,p3,p4⟩:=E3 (n:=n) (w:=.lst (((Bx ss).map Sg.ret).map vi)) gk hm rfl (Wz (g:=g) (Bx ss) fun s hs=>h.ks s (List.mem_filter.mp hs).1)
 refine ⟨r,g',?_,p2,p3,p4⟩
 refine AX (σ:=[sv .tab,sv (.lst (is.map vn)),none,none,none]) rfl rfl (by decide) (AF (AE rfl) rfl (BO (w:=.lst (is.map vn)) (g1:=g) (its:=is.map vn) rfl rfl (h.rows [] (by simp;omega))) ?_)
 refine AS (AE rfl) (AH rfl rfl (vs:=[.tab,.lst (((Bx ss).map Sg.ret).map vi)]) (AB (v:=.tab) (g1:=g) rfl (AB (BO (w:=.lst (ss.map fun s=>vi s.ret)) (g1:=g) (its:=ss.map fun s=>vi s.ret) rfl rfl ?_) AR)) p1)
 have hin:∀ b:Bool,decide (3∈ss.map Sg.ret)=b→EP .NotIn (vi 3) (.lst (ss.map fun s=>vi s.ret))=some !b:=fun b hb=>by
  show ((Cz (ss.map fun s=>vi s.ret)).map _).map _=_
  have:(ss.map fun s=>vi s.ret)=(ss.map Sg.ret).map vi:=by rw [List.map_map];rfl
  rw [this,CC,Option.map_some,Option.map_some,hb]
 have:=Bl (elt:=VE (AA (n+3)) (.loc 4)) (cond:=VT (AA (n+3)) (.bop .Or [.cmp .NotEq (.loc 4) (.gl 45),.cmp .NotIn (.gl 93) (.loc 2)]) (VE (AA (n+3)) (.bop .Or [.cmp .NotEq (.loc 4) (.gl 45),.cmp .NotIn (.gl 93) (.loc 2)]))) (t:=.one 4)
  (σ:=[sv .tab,sv (.lst (is.map vn)),sv (.lst (ss.map fun s=>vi s.ret)),none,none]) (g:=g) (fun s=>!decide (s.ret=4)||!decide (3∈ss.map Sg.ret)) (fun s=>vi s.ret) (fun s=>vi s.ret) ss [] (by simp;omega) fun s hs=>⟨[sv .tab,sv (.lst (is.map vn)),sv (.lst (ss.map fun s=>vi s.ret)),none,sv (vi s.ret)],rfl,?_,fun _=>rfl⟩
 ·refine Eq.trans this ?_
  simp only [List.nil_append,Bx,List.map_map]
  rfl
 ·by_cases h4:s.ret=4
  ·have e1:VT (AA (n+3)) (.cmp .NotEq (.loc 4) (.gl 45)) (VE (AA (n+3)) (.cmp .NotEq (.loc 4) (.gl 45))) [sv .tab,sv (.lst (is.map vn)),sv (.lst (ss.map fun s=>vi s.ret)),none,sv (vi s.ret)] g=some (false,g):=AK (x:=vi s.ret) (y:=vi 4) rfl rfl (CQ (by simp [h4]))
   cases hb:decide (3∈ss.map Sg.ret) with
   | true =>
    rw [decide_eq_true h4]
    exact Bm e1 (Bm (AK (x:=vi 3) (y:=.lst (ss.map fun s=>vi s.ret)) rfl rfl (hin _ hb)) EW)
   | false =>
    rw [decide_eq_true h4]
    exact Bm e1 (G2 (AK (x:=vi 3) (y:=.lst (ss.map fun s=>vi s.ret)) rfl rfl (hin _ hb)))
  ·rw [decide_eq_false h4]
   exact G2 (AK (x:=vi s.ret) (y:=vi 4) rfl rfl (CQ (by simp [h4])))
noncomputable def NN (ss:List Sg):Nat:=ss.foldl (fun a s=>max a (CI s)) 0
noncomputable def TT (ss:List Sg):Nat:=ss.foldl (fun a s=>max a s.pl.length) 0
noncomputable def RR (ss:List Sg):Bool:=ss.any fun s=>s.rest.tail.isSome
theorem Mv (s:Sg):CI s≤s.pl.length:=by
 have:∀ (f:Nat→Option Kn) n,IV f n≤n:=fun f n=>by
  induction n with
  | zero=>exact Nat.le_refl _
  | succ n ih=>unfold IV;split<;>omega
 exact Nat.le_trans (this _ _) (IN s)
theorem QO {f h:Sg→Nat} (hf:∀ s,f s≤h s):∀ (ss:List Sg) (a b:Nat),a≤b→ss.foldl (fun a s=>max a (f s)) a≤ss.foldl (fun a s=>max a (h s)) b
 | [],a,b,hab=>hab
 | s::ss,a,b,hab=>by
  simp only [List.foldl]
  refine QO hf ss _ _ ?_
  have:=hf s
  omega
theorem Qj (ss:List Sg):NN ss≤TT ss:=QO Mv ss 0 0 (Nat.le_refl _)
noncomputable abbrev MJ (S:VV) (N T:Nat) (R:Bool) (x y z:Option VS):VL:=[sv .host,sv S,sv (vn N),sv (vn T),sv (vb R),x,y,z]
noncomputable abbrev Zp:List PS:=[.assign 6 (.call (.gl 101) [.loc 0,.loc 5]),.assign 4 (.bop .Or [.loc 4,.cmp .Lt (.loc 6) (.int 0)]),.assign 7 (.ite (.cmp .Lt (.loc 6) (.int 0)) (.call (.gl 102) [.loc 0,.loc 5]) (.loc 6)),.ite (.cmp .Gt (.call (.gl 103) [.loc 0,.loc 5]) (.loc 2)) [.assign 2 (.call (.gl 103) [.loc 0,.loc 5])] [],.ite (.cmp .Gt (.loc 7) (.loc 3)) [.assign 3 (.loc 7)] []]
theorem Nd {n m:Nat} {own:PV} (hm:m≤1000) {S:VV}:∀ (is:List Nat) (ss:List Sg) (N T:Nat) (R:Bool) (x y z:Option VS) (g:G),EE own g is ss→GK m g →
  ∃ x' y' z' g',AU (Bv (AA (n+10)) Zp) (.one 5) (is.map vn) (MJ S N T R x y z) g=some (.next,MJ S (ss.foldl (fun a s=>max a (CI s)) N) (ss.foldl (fun a s=>max a s.pl.length) T) (R||RR ss) x' y' z',g')∧C3 g g'∧GK m g':=by
 intro is
 induction is with
 | nil =>
  intro ss N T R x y z g hs gk
  cases hs
  exact ⟨x,y,z,g,by simp [RR,AU],.refl,gk⟩
 | cons i is ih =>
  intro ss0 N T R x y z g hs gk
  cases hs
  rename_i s ss h hs
  let mo:Int:=if s.rest.tail.isSome then -1 else (s.pl.length:Nat)
  have hmo:decide (mo<0)=s.rest.tail.isSome:=by
   cases ht:s.rest.tail.isSome with
   | true =>
    have:mo=-1:=by simp only [mo,ht,if_true]
    rw [this];rfl
   | false =>
    have:mo=(s.pl.length:Nat):=by simp only [mo,ht];rfl
    rw [this];exact decide_eq_false (by omega)
  refine oEAA (SB (n:=n) gk hm h) fun g1 q1 q2 q3=>?_
  let T':=max T s.pl.length
  let N':=max N (CI s)
  have s1:VX (AA (n+10)) (.assign 6 (.call (.gl 101) [.loc 0,.loc 5])) (MJ S N T R (sv (vn i)) y z) g=some (.next,MJ S N T R (sv (vn i)) (sv (vi mo)) z,g) :=
   AO rfl DP (AH rfl rfl (vs:=[.host,vn i]) rfl (XU (n:=n+7) gk h))
  have s2:VX (AA (n+10)) (.assign 4 (.bop .Or [.loc 4,.cmp .Lt (.loc 6) (.int 0)])) (MJ S N T R (sv (vn i)) (sv (vi mo)) z) g=some (.next,MJ S N T (R||s.rest.tail.isSome) (sv (vn i)) (sv (vi mo)) z,g):=by
   rw [←hmo]
   exact AO rfl rfl (Zi rfl (CM (x:=vi mo) (y:=vi 0) rfl rfl rfl))
  have s3:VX (AA (n+10)) (.assign 7 (.ite (.cmp .Lt (.loc 6) (.int 0)) (.call (.gl 102) [.loc 0,.loc 5]) (.loc 6))) (MJ S N T (R||s.rest.tail.isSome) (sv (vn i)) (sv (vi mo)) z) g=some (.next,MJ S N T (R||s.rest.tail.isSome) (sv (vn i)) (sv (vi mo)) (sv (vn s.pl.length)),g):=by
   refine AO (σ0:=MJ S N T (R||s.rest.tail.isSome) (sv (vn i)) (sv (vi mo)) z) (w:=vn s.pl.length) (g1:=g) rfl rfl ?_
   refine A9 (t:=s.rest.tail.isSome) (g1:=g) (AK (x:=vi mo) (y:=vi 0) rfl rfl (Fy hmo)) ?_
   cases ht:s.rest.tail.isSome with
   | true=>exact AH rfl rfl (vs:=[.host,vn i]) rfl (U9 (n:=n+7) gk h)
   | false =>
    have:mo=(s.pl.length:Nat):=by simp only [mo,ht];rfl
    rw [this];rfl
  have cn:∀ (g:G) (g1:G) (σ:VL),σ[0]?=some (sv .host)→σ[5]?=some (sv (vn i))→AA (n+10) (.fn 45) [.host,vn i] g=some (vn (CI s),g1)→VE (AA (n+10)) (.call (.gl 103) [.loc 0,.loc 5]) σ g=some (vn (CI s),g1):=fun g g1 σ h0 h5 hc =>
   AH (i:=45) (vs:=[.host,vn i]) (g1:=g) rfl rfl (AB (v:=.host) (g1:=g) (Kf h0) (AB (v:=vn i) (g1:=g) (Kf h5) AR)) hc
  have s4:∃ g2,VX (AA (n+10)) (.ite (.cmp .Gt (.call (.gl 103) [.loc 0,.loc 5]) (.loc 2)) [.assign 2 (.call (.gl 103) [.loc 0,.loc 5])] []) (MJ S N T (R||s.rest.tail.isSome) (sv (vn i)) (sv (vi mo)) (sv (vn s.pl.length))) g=some (.next,MJ S N' T (R||s.rest.tail.isSome) (sv (vn i)) (sv (vi mo)) (sv (vn s.pl.length)),g2)∧C3 g g2∧GK m g2:=by
   by_cases hc:N<CI s
   ·refine oEAA (SB (n:=n) q3 hm (h.ext q2)) fun g2 p1 p2 p3=>?_
    have hN':N'=CI s:=by simp only [N'];omega
    rw [hN']
    refine ⟨g2,Ag (σ0:=MJ S N T (R||s.rest.tail.isSome) (sv (vn i)) (sv (vi mo)) (sv (vn s.pl.length))) rfl (AK (x:=vn (CI s)) (y:=vn N) (cn _ _ _ rfl rfl q1) rfl (cmp_gt (decide_eq_true (by omega)))) (AD (AO rfl rfl (cn _ _ _ rfl rfl p1)) AG),q2.trans p2,p3⟩
   ·have hN':N'=N:=by simp only [N'];omega
    rw [hN']
    exact ⟨g1,Ag (σ0:=MJ S N T (R||s.rest.tail.isSome) (sv (vn i)) (sv (vi mo)) (sv (vn s.pl.length))) rfl (AK (x:=vn (CI s)) (y:=vn N) (cn _ _ _ rfl rfl q1) rfl (cmp_gt (decide_eq_false (by omega)))) AG,q2,q3⟩
  refine oEAA s4 fun g2 s4 e2 gk2=>?_
  have s5:VX (AA (n+10)) (.ite (.cmp .Gt (.loc 7) (.loc 3)) [.assign 3 (.loc 7)] []) (MJ S N' T (R||s.rest.tail.isSome) (sv (vn i)) (sv (vi mo)) (sv (vn s.pl.length))) g2=some (.next,MJ S N' T' (R||s.rest.tail.isSome) (sv (vn i)) (sv (vi mo)) (sv (vn s.pl.length)),g2):=by
   by_cases hc:T<s.pl.length
   ·have hT':T'=s.pl.length:=by simp only [T'];omega
    rw [hT']
    exact Ag (σ0:=MJ S N' T (R||s.rest.tail.isSome) (sv (vn i)) (sv (vi mo)) (sv (vn s.pl.length))) rfl (AK (x:=vn s.pl.length) (y:=vn T) rfl rfl (cmp_gt (decide_eq_true (by omega)))) (AD (AO (w:=vn s.pl.length) (g1:=g2) rfl rfl rfl) AG)
   ·have hT':T'=T:=by simp only [T'];omega
    rw [hT']
    exact Ag (σ0:=MJ S N' T (R||s.rest.tail.isSome) (sv (vn i)) (sv (vi mo)) (sv (vn s.pl.length))) rfl (AK (x:=vn s.pl.length) (y:=vn T) rfl rfl (cmp_gt (decide_eq_false (by omega)))) AG
  refine oEEEEAA (ih ss N' T' (R||s.rest.tail.isSome) (sv (vn i)) (sv (vi mo)) (sv (vn s.pl.length)) g2 (hs.ext e2) gk2) fun x' y' z' g' z1 z2 z3=>?_
  refine ⟨x',y',z',g',Ab (σ1:=MJ S N T R (sv (vn i)) y z) rfl (AD s1 (AD s2 (AD s3 (AD s4 (AD s5 AG))))) ?_,e2.trans z2,z3⟩
  rw [z1]
  simp only [RR,List.any_cons,Bool.or_assoc]
  rfl
theorem SF {n m:Nat} {own:PV} {g:G} {is:List Nat} {ss:List Sg} (gk:GK m g) (hm:m≤1000) (h:EE own g is ss) :
  ∃ g',AA (n+11) (.fn 51) [.host,.lst (is.map vn)] g=some (.imm (.tup [.int (NN ss),.int (TT ss),.bool (RR ss)]),g')∧C3 g g'∧GK m g':=by
 refine oEEEEAA (Nd (n:=n) hm (S:=.lst (is.map vn)) is ss 0 0 false none none none g h gk) fun x y z g' q1 q2 q3=>?_
 rw [Bool.false_or] at q1
 refine ⟨g',?_,q2,q3⟩
 refine AX (σ:=[sv .host,sv (.lst (is.map vn)),none,none,none,none,none,none]) rfl rfl (by decide) (AF (AE rfl) rfl (w:=vi 0) (g1:=g) rfl (AF (AE rfl) rfl (w:=vi 0) (g1:=g) rfl (AF (AE rfl) rfl (w:=vb false) (g1:=g) rfl ?_)))
 refine Ai (AE rfl) (w:=.lst (is.map vn)) (g1:=g) (its:=is.map vn) rfl rfl q1 ?_
 refine AS rfl (CL (vs:=[vn (NN ss),vn (TT ss),vb (RR ss)]) (AB (v:=vn (NN ss)) (g1:=g') rfl (AB (A9 (t:=false) (g1:=g') (AK (x:=vn (NN ss)) (y:=vn (TT ss)) rfl rfl (cmp_gt (decide_eq_false (by have:=Qj ss;omega)))) (x:=(vn (TT ss),g')) rfl) (AB rfl AR))))
noncomputable def Up (k:Nat):Str:=sO "arg"++Str.ofString (toString (k:Int))
theorem Hm {P:Nat→Prop} {n:Nat} (h:∀ i,i<n→P i) (hn:P n):∀ i,i<n+1→P i:=fun i hi=>(Nat.lt_succ_iff_lt_or_eq.mp hi).elim (h i) fun e=>e▸hn
theorem lt0 {P:Nat→Prop}:∀ i,i<0→P i:=fun i h=>absurd h (Nat.not_lt_zero i)
theorem WQ:∀ k<8,Hz .Add (.imm (.str (sO "arg"))) (.imm (.str (Str.ofString (toString ((k:Nat):Int)))))=some (.imm (.str (Up k))) :=
 Hm (Hm (Hm (Hm (Hm (Hm (Hm (Hm lt0 (by kernel_rfl)) (by kernel_rfl)) (by kernel_rfl)) (by kernel_rfl)) (by kernel_rfl)) (by kernel_rfl)) (by kernel_rfl)) (by kernel_rfl)
theorem Rp:∀ k<8,(Up k).cps.all (·<0x110000)=true:=by decide +kernel
noncomputable def TP (k:Nat) (t:Int) (late:Bool):PV:=.tup [.str (Up k),.int t,.int (mk late)]
structure HP (g:G) (ss:List Sg) (cnt mf:Nat) (ps:List PV):Prop where
 len:ps.length=cnt
 item:∀ k,k<cnt→∃ t,ps[k]?=some (TP k t (decide (mf≤k)))∧RO g t (Ah ss k)
theorem RO.ext {g g':G} {t:Int} {o:Option Kn} (h:RO g t o) (e:C3 g g'):RO g' t o:=by
 cases o with
 | none=>exact h
 | some K=>exact Kd.ext h e
theorem HP.ext {g g':G} {ss:List Sg} {cnt mf:Nat} {ps:List PV} (h:HP g ss cnt mf ps) (e:C3 g g'):HP g' ss cnt mf ps :=
 ⟨h.len,fun k hk=>by refine oEA (h.item k hk) fun t h1 h2=>?_;exact ⟨t,h1,h2.ext e⟩⟩
noncomputable abbrev ZD:List PS:=[.assign 6 (.ite (.cmp .Lt (.loc 5) (.loc 3)) (.gl 91) (.gl 88)),.expr (.meth (.loc 4) 0 [.tup [.bin .Add (.str (sO "arg")) (.call (.gl 104) [.loc 5]),.call (.gl 105) [.loc 0,.loc 1,.loc 5],.loc 6]])]
theorem HU {n m:Nat} {own:PV} (hm:m≤1000) {is:List Nat} {ss:List Sg} (hl:is.length≤10) {C0:VV} {mf:Nat}:∀ (c k:Nat) (ps:List PV) (x y:Option VS) (g:G),k+c≤8→EE own g is ss→GK m g→HP g ss k mf ps →
  ∃ x' y' ps' g',AU (Bv (AA (n+11)) ZD) (.one 5) ((List.range' k c).map vn) [sv .host,sv (.lst (is.map vn)),sv C0,sv (vn mf),some (.own (ps.map VV.imm)),x,y] g=some (.next,[sv .host,sv (.lst (is.map vn)),sv C0,sv (vn mf),some (.own (ps'.map VV.imm)),x',y'],g')∧C3 g g'∧GK m g'∧HP g' ss (k+c) mf ps'
 | 0,k,ps,x,y,g,_,_,gk,hp=>⟨x,y,ps,g,BA,.refl,gk,hp⟩
 | c+1,k,ps,x,y,g,hk,hs,gk,hp=>by
  obtain ⟨t,g1,q1,q2,q3,q4⟩:=Ky (n:=n) gk hm hs hl k
  have hm':VX (AA (n+11)) (.assign 6 (.ite (.cmp .Lt (.loc 5) (.loc 3)) (.gl 91) (.gl 88))) [sv .host,sv (.lst (is.map vn)),sv C0,sv (vn mf),some (.own (ps.map VV.imm)),sv (vn k),y] g=some (.next,[sv .host,sv (.lst (is.map vn)),sv C0,sv (vn mf),some (.own (ps.map VV.imm)),sv (vn k),sv (vi (mk (decide (mf≤k))))],g):=by
   by_cases h:k<mf
   ·rw [decide_eq_false (by omega)]
    exact AO (w:=vi 0) (g1:=g) rfl rfl (A9 (t:=true) (g1:=g) (AK (x:=vn k) (y:=vn mf) rfl rfl (Fy (decide_eq_true (by omega)))) rfl)
   ·rw [decide_eq_true (by omega)]
    exact AO (w:=vi 1) (g1:=g) rfl rfl (A9 (t:=false) (g1:=g) (AK (x:=vn k) (y:=vn mf) rfl rfl (Fy (decide_eq_false (by omega)))) rfl)
  have hp':HP g1 ss (k+1) mf (ps++[TP k t (decide (mf≤k))]):=by
   refine ⟨by simp [hp.len],fun j hj=>?_⟩
   by_cases hjk:j<k
   ·refine oEA (hp.item j hjk) fun t' h1 h2=>?_
    exact ⟨t',by rw [List.getElem?_append_left (by rw [hp.len];exact hjk)];exact h1,h2.ext q2⟩
   ·have:j=k:=by omega
    subst this
    exact ⟨t,by rw [List.getElem?_append_right (by rw [hp.len];exact Nat.le_refl _),hp.len];simp,q4⟩
  refine oEEEEAAA (HU (n:=n) hm hl (C0:=C0) (mf:=mf) c (k+1) (ps++[TP k t (decide (mf≤k))]) (sv (vn k)) (sv (vi (mk (decide (mf≤k))))) g1 (by omega) (hs.ext q2) q3 hp') fun x' y' ps' g' z1 z2 z3 z4=>?_
  refine ⟨x',y',ps',g',?_,q2.trans z2,z3,by rw [show k+(c+1)=k+1+c by omega];exact z4⟩
  refine Ab (σ1:=[sv .host,sv (.lst (is.map vn)),sv C0,sv (vn mf),some (.own (ps.map VV.imm)),sv (vn k),y]) rfl (AD hm' (AD (σ1:=[sv .host,sv (.lst (is.map vn)),sv C0,sv (vn mf),some (.own ((ps++[TP k t (decide (mf≤k))]).map VV.imm)),sv (vn k),sv (vi (mk (decide (mf≤k))))]) (g1:=g1) ?_ AG)) z1
  have:=Ao (C:=AA (n+11)) (i:=4) (a:=.tup [.bin .Add (.str (sO "arg")) (.call (.gl 104) [.loc 5]),.call (.gl 105) [.loc 0,.loc 1,.loc 5],.loc 6]) (σ:=[sv .host,sv (.lst (is.map vn)),sv C0,sv (vn mf),some (.own (ps.map VV.imm)),sv (vn k),sv (vi (mk (decide (mf≤k))))]) (σ0:=[sv .host,sv (.lst (is.map vn)),sv C0,sv (vn mf),some (.own (ps.map VV.imm)),sv (vn k),sv (vi (mk (decide (mf≤k))))]) (g:=g) (g1:=g1) (l:=ps.map VV.imm) (w:=.imm (TP k t (decide (mf≤k)))) rfl
   (CL (vs:=[.imm (.str (Up k)),vi t,vi (mk (decide (mf≤k)))]) (AB (Aj (x:=.imm (.str (sO "arg"))) (y:=.imm (.str (Str.ofString (toString (k:Int))))) (g1:=g) (g2:=g) rfl (BH rfl rfl (vs:=[vn k]) rfl (if_pos (by omega))) (WQ k (by omega))) (AB (AH rfl rfl (vs:=[.host,.lst (is.map vn),vn k]) rfl q1) (AB rfl AR)))) rfl (by simp [hp.len];omega)
  rw [this]
  simp
theorem MN {n m:Nat} {own:PV} {g:G} {is:List Nat} {ss:List Sg} (gk:GK m g) (hm:m≤1000) (h:EE own g is ss) (hl:is.length≤10) {c mf:Nat} (hc:c≤8) :
  ∃ ps g',AA (n+12) (.fn 52) [.host,.lst (is.map vn),vn c,vn mf] g=some (.lst (ps.map VV.imm),g')∧C3 g g'∧GK m g'∧HP g' ss c mf ps:=by
 refine oEEEEAAA (HU (n:=n) hm hl (C0:=vn c) (mf:=mf) c 0 [] none none g (by omega) h gk ⟨rfl,fun k hk=>absurd hk (by omega)⟩) fun x y ps g' q1 q2 q3 q4=>?_
 refine ⟨ps,g',?_,q2,q3,by simpa using q4⟩
 refine AX (σ:=[sv .host,sv (.lst (is.map vn)),sv (vn c),sv (vn mf),none,none,none]) rfl rfl (by decide) (B5 (AE rfl) rfl ?_)
 refine Ai (σ0:=[sv .host,sv (.lst (is.map vn)),sv (vn c),sv (vn mf),some (.own []),none,none]) (w:=.imm (.rng 0 c)) (g1:=g) rfl (BH rfl rfl (vs:=[vn c]) rfl rfl) (A2 (by omega)) q1 ?_
 exact AS rfl rfl
noncomputable def Rr:Option Kn→Bool
 | some K=>K 0||K 1||K 4
 | none=>false
noncomputable abbrev Yu:List PS:=[.assign 5 (.call (.gl 105) [.loc 0,.loc 1,.loc 4]),.ite (.bop .And [.cmp .NotEq (.loc 5) (.gl 35),.cmp .NotEq (.loc 5) (.gl 37),.cmp .NotEq (.loc 5) (.gl 36),.not (.call (.gl 106) [.attr (.loc 0) 14,.loc 5,.gl 45])]) [.ret (.bool false)] []]
theorem IT {n m:Nat} {own:PV} (hm:m≤1000) {is:List Nat} {ss:List Sg} (hl:is.length≤10) {A B:VV}:∀ (c k:Nat) (x y:Option VS) (g:G),(∀ j,k≤j→j<k+c→Ah ss j≠none)→EE own g is ss→GK m g →
  ∃ σ' g',AU (Bv (AA (n+11)) Yu) (.one 4) ((List.range' k c).map vn) [sv .host,sv (.lst (is.map vn)),sv A,sv B,x,y] g=some (if (List.range' k c).all (fun i=>Rr (Ah ss i)) then .next else .ret (vb false),σ',g')∧C3 g g'∧GK m g'
 | 0,k,x,y,g,_,_,gk=>⟨_,g,BA,.refl,gk⟩
 | c+1,k,x,y,g,hn,hs,gk=>by
  obtain ⟨t,g1,q1,q2,q3,q4⟩:=Ky (n:=n) gk hm hs hl k
  let σ1:VL:=[sv .host,sv (.lst (is.map vn)),sv A,sv B,sv (vn k),sv (vi t)]
  have s1:VX (AA (n+11)) (.assign 5 (.call (.gl 105) [.loc 0,.loc 1,.loc 4])) [sv .host,sv (.lst (is.map vn)),sv A,sv B,sv (vn k),y] g=some (.next,σ1,g1):=AO rfl DP (AH rfl rfl (vs:=[.host,.lst (is.map vn),vn k]) rfl q1)
  have hbind:B3 (.one 4) (vn k) [sv .host,sv (.lst (is.map vn)),sv A,sv B,x,y]=some [sv .host,sv (.lst (is.map vn)),sv A,sv B,sv (vn k),y]:=rfl
  cases ho:Ah ss k with
  | none=>exact absurd ho (hn k (Nat.le_refl _) (by omega))
  | some K =>
   rw [ho] at q4
   have q4:Kd g1 t K:=q4
   have a0:=LT q3 q4
   have a1:=LS q3 q4
   have t13:t≠13:=fun e=>by subst e;exact QI q3 q4
   have cnd:VT (AA (n+11)) (.bop .And [.cmp .NotEq (.loc 5) (.gl 35),.cmp .NotEq (.loc 5) (.gl 37),.cmp .NotEq (.loc 5) (.gl 36),.not (.call (.gl 106) [.attr (.loc 0) 14,.loc 5,.gl 45])]) (VE (AA (n+11)) (.bop .And [.cmp .NotEq (.loc 5) (.gl 35),.cmp .NotEq (.loc 5) (.gl 37),.cmp .NotEq (.loc 5) (.gl 36),.not (.call (.gl 106) [.attr (.loc 0) 14,.loc 5,.gl 45])])) σ1 g1=some (!(K 0||K 1||K 4),g1):=by
    cases k0:K 0 with
    | true=>exact A6 (AK (x:=vi t) (y:=vi 0) rfl rfl (CQ (by simp [a0.mpr k0])))
    | false =>
     have n0:t≠0:=fun e=>by rw [a0.mp e] at k0;exact nT k0
     cases k1:K 1 with
     | true=>exact A5 (AK (x:=vi t) (y:=vi 0) rfl rfl (CQ (by simp [n0]))) (A6 (AK (x:=vi t) (y:=vi 1) rfl rfl (CQ (by simp [a1.mpr k1]))))
     | false =>
      have n1:t≠1:=fun e=>by rw [a1.mp e] at k1;exact nT k1
      refine A5 (AK (x:=vi t) (y:=vi 0) rfl rfl (CQ (by simp [n0]))) (A5 (AK (x:=vi t) (y:=vi 1) rfl rfl (CQ (by simp [n1]))) (A5 (AK (x:=vi t) (y:=vi 13) rfl rfl (CQ (by simp [t13]))) ?_))
      have hh:VT (AA (n+11)) (.not (.call (.gl 106) [.attr (.loc 0) 14,.loc 5,.gl 45])) (VE (AA (n+11)) (.not (.call (.gl 106) [.attr (.loc 0) 14,.loc 5,.gl 45]))) σ1 g1=some (!K 4,g1):=v_not (Jp (w:=vb (K 4)) rfl (AH rfl rfl (vs:=[.tab,vi t,vi 4]) rfl (v_has (n:=n+9) q3 q4)) rfl)
      cases hz:K 4 with
      | true=>rw [hz] at hh;exact A6 hh
      | false=>rw [hz] at hh;exact A5 hh DQ
   have hall:(List.range' k (c+1)).all (fun i=>Rr (Ah ss i))=((K 0||K 1||K 4)&&(List.range' (k+1) c).all (fun i=>Rr (Ah ss i))):=by
    rw [List.range'_succ,List.all_cons,ho];rfl
   rw [hall]
   cases hz:(K 0||K 1||K 4) with
   | false =>
    rw [hz] at cnd
    refine ⟨σ1,g1,?_,q2,q3⟩
    rw [List.range'_succ,List.map_cons]
    exact KZ hbind (AD s1 (ES (Ag (σ0:=σ1) rfl cnd (ES (Bz rfl)))))
   | true =>
    rw [hz] at cnd
    refine oEEAA (IT (n:=n) hm hl (A:=A) (B:=B) c (k+1) (sv (vn k)) (sv (vi t)) g1 (fun j h1 h2=>hn j (by omega) (by omega)) (hs.ext q2) q3) fun σ' g' z1 z2 z3=>?_
    refine ⟨σ',g',?_,q2.trans z2,z3⟩
    rw [List.range'_succ,List.map_cons,Bool.true_and]
    exact Ab hbind (AD s1 (AD (Ag (σ0:=σ1) rfl cnd AG) AG)) z1
theorem DB {a b:Nat} (h1:a≤1000000) (h2:b≤1000000):Bs (.imm (.rng a b))=some ((List.range' a (b-a)).map vn):=by
 rw [JG (by omega) (by omega) (by omega) (by omega)]
 have:((b:Int)-(a:Int)).toNat=b-a:=by omega
 rw [this]
 congr 1
 have h:=List.map_add_range' (a:=a) 0 (b-a) 1
 rw [Nat.add_zero] at h
 rw [←h,List.map_map]
 refine List.map_congr_left fun k _=>?_
 show vi _=vi _
 congr 1
noncomputable def BC (ss:List Sg):Bool:=(List.range' (NN ss) (TT ss-NN ss)).all fun i=>Rr (Ah ss i)
theorem U7 {n m:Nat} {own:PV} {g:G} {is:List Nat} {ss:List Sg} (gk:GK m g) (hm:m≤1000) (h:EE own g is ss) (hl:is.length≤10) (hT:TT ss≤8) (hn:∀ j,j<TT ss→Ah ss j≠none) :
  ∃ g',AA (n+12) (.fn 53) [.host,.lst (is.map vn),vn (NN ss),vn (TT ss)] g=some (vb (BC ss),g')∧C3 g g'∧GK m g':=by
 have hN:=Qj ss
 refine oEEAA (IT (n:=n) hm hl (A:=vn (NN ss)) (B:=vn (TT ss)) (TT ss-NN ss) (NN ss) none none g (fun j h1 h2=>hn j (by omega)) h gk) fun σ' g' q1 q2 q3=>?_
 refine ⟨g',?_,q2,q3⟩
 refine AX (σ:=[sv .host,sv (.lst (is.map vn)),sv (vn (NN ss)),sv (vn (TT ss)),none,none]) rfl rfl (by decide) ?_
 cases hu:BC ss with
 | true =>
  have hu':(List.range' (NN ss) (TT ss-NN ss)).all (fun i=>Rr (Ah ss i))=true:=hu
  rw [hu',if_pos rfl] at q1
  exact Ai (AE rfl) (w:=.imm (.rng (NN ss) (TT ss))) (g1:=g) (BH rfl rfl (vs:=[vn (NN ss),vn (TT ss)]) rfl rfl) (DB (by omega) (by omega)) q1 (LG (σ1:=fz (locs (.bool true)) σ') rfl)
 | false =>
  have hu':(List.range' (NN ss) (TT ss-NN ss)).all (fun i=>Rr (Ah ss i))=false:=hu
  rw [hu',if_neg (by simp)] at q1
  exact Ig (AE rfl) (w:=.imm (.rng (NN ss) (TT ss))) (g1:=g) (BH rfl rfl (vs:=[vn (NN ss),vn (TT ss)]) rfl rfl) (DB (by omega) (by omega)) q1
noncomputable def B6 (own:PV) (ps:List PV) (ret:Int):PV:=.tup [.int 13,own,.tup ps,.int ret,.tup [],.int 0]
theorem G0 {n m:Nat} {g:G} {own:PV} {w:VV} {ps ow:List PV} {ret:Int} (gk:GK m g) (hm:m≤1000) (ho:own=.tup ow) (hw:L7 .tuple [w]=some (.imm (.tup ps))) (h1:Ad 5 own=true) (h2:∀ p∈ps,Ad 4 p=true) :
  ∃ j g',AA (n+2) (.fn 11) [.tab,.imm own,w,vi ret,.imm (.tup []),vi 0] g=some (vn j,g')∧g'.rows[j]?=some (B6 own ps ret)∧C3 g g'∧GK (m+1) g'∧(B6 own ps ret∈g.rows→g'=g):=by
 have hp:(B6 own ps ret).plain=true:=by
  exact Fh (BL rfl (BL h1 (BL (Fh (List.all_eq_true.mpr h2)) (BL rfl (BL rfl (BL rfl rfl))))))
 refine oEEAAAAA (GJ gk hm (r:=B6 own ps ret) rfl hp fun h=>by cases h) fun j g' p1 p2 p3 p4 p5 p6=>?_
 refine ⟨j,g',?_,p2,p3,p4,p6⟩
 subst ho
 refine AX (σ:=[sv .tab,sv (.imm (.tup ow)),sv w,sv (vi ret),sv (.imm (.tup [])),sv (vi 0)]) rfl rfl (by decide) ?_
 refine AS (AE rfl) (Fv (b:=.tab) (g1:=g) (vs:=[.imm (B6 (.tup ow) ps ret)]) rfl (AB (v:=.imm (B6 (.tup ow) ps ret)) (g1:=g) (CL (vs:=[vi 13,.imm (.tup ow),.imm (.tup ps),vi ret,.imm (.tup []),vi 0]) (AB rfl (AB (BH rfl rfl (vs:=[.imm (.tup ow)]) rfl rfl) (AB (BH rfl rfl (vs:=[w]) rfl hw) rfl)))) AR) p1)
theorem G3 {n m:Nat} {g:G} {t ro:Int} (gk:GK m g) (hm:m≤1000):∃ (j:Nat) (g':G),AA (n+2) (.fn 6) [.tab,vi t,vi ro] g=some (vn j,g')∧g'.rows[j]?=some (.tup [.int 11,.int t,.int ro])∧C3 g g'∧GK (m+1) g':=by
 refine oEEAAAAA (GJ gk hm (r:=.tup [.int 11,.int t,.int ro]) rfl rfl fun h=>by cases h) fun j g' p1 p2 p3 p4 p5 p6=>?_
 refine ⟨j,g',?_,p2,p3,p4⟩
 refine AX (σ:=[sv .tab,sv (vi t),sv (vi ro)]) rfl rfl (by decide) ?_
 exact AS (AE rfl) (Fv (b:=.tab) (g1:=g) (vs:=[.imm (.tup [.int 11,.int t,.int ro])]) rfl (by rfl) p1)
noncomputable def Fb:Str:=sO "args"
noncomputable def Db (g:G) (ss:List Sg) (tl:List PV):Prop :=
 if RR ss=true then ∃ (a:Nat) (t:Int),tl=[.tup [.str Fb,.int a,.int 2]]∧g.rows[a]?=some (.tup [.int 11,.int t,.int 0])∧RO g t (Ah ss (TT ss)) else tl=[]
theorem Db.ext {g g':G} {ss:List Sg} {tl:List PV} (h:Db g ss tl) (e:C3 g g'):Db g' ss tl:=by
 unfold Db at h ⊢
 split
 ·rename_i hr
  rw [if_pos hr] at h
  refine oEEAA h fun a t h1 h2 h3=>?_
  exact ⟨a,t,h1,e.at h2,h3.ext e⟩
 ·rename_i hr
  rw [if_neg hr] at h
  exact h
noncomputable def CD (g:G) (own:PV) (ss:List Sg) (ret:Int) (tl:List PV) (cnt mf:Nat) (last:Bool) (j:Nat):Prop :=
 ∃ ps,HP g ss cnt mf ps∧g.rows[j]?=some (B6 own (ps++if last then tl else []) ret)
theorem CD.ext {g g':G} {own:PV} {ss:List Sg} {ret:Int} {tl:List PV} {cnt mf:Nat} {last:Bool} {j:Nat} (h:CD g own ss ret tl cnt mf last j) (e:C3 g g'):CD g' own ss ret tl cnt mf last j:=by
 refine oEA h fun ps h1 h2=>?_
 exact ⟨ps,h1.ext e,e.at h2⟩
structure Jn (own:PV) (g:G) (ss:List Sg) (both:List Nat):Prop where
 out:∃ ret tl,Kd g ret (By (BS ((Bx ss).map Sg.RK)))∧Db g ss tl ∧
  if BC ss=true then ∃ j,both=[j]∧CD g own ss ret tl (TT ss) (NN ss) true j
  else both.length=TT ss-NN ss+1∧∀ c,c≤TT ss-NN ss→∃ j,both[c]?=some j∧CD g own ss ret tl (NN ss+c) (NN ss+c) (NN ss+c==TT ss) j
theorem Jn.ext {own:PV} {g g':G} {ss:List Sg} {both:List Nat} (h:Jn own g ss both) (e:C3 g g'):Jn own g' ss both:=by
 refine oEEAA (h.out) fun ret tl h1 h2 h3=>?_
 refine ⟨ret,tl,h1.ext e,h2.ext e,?_⟩
 split
 ·rename_i hu
  rw [if_pos hu] at h3
  refine oEA h3 fun j h4 h5=>?_
  exact ⟨j,h4,h5.ext e⟩
 ·rename_i hu
  rw [if_neg hu] at h3
  exact ⟨h3.1,fun c hc=>by refine oEA (h3.2 c hc) fun j h4 h5=>?_;exact ⟨j,h4,h5.ext e⟩⟩
theorem HP.plain {g:G} {ss:List Sg} {cnt mf:Nat} {ps:List PV} (h:HP g ss cnt mf ps) (hc:cnt≤8):∀ p∈ps,Ad 4 p=true:=by
 intro p hp
 refine oE (List.getElem?_of_mem hp) fun i hi=>?_
 have hlt:i<cnt:=by rw [←h.len];exact (gI hi).1
 refine oEA (h.item i hlt) fun t h1 h2=>?_
 rw [h1] at hi
 rw [←Option.some.inj hi]
 exact pl3 (Rp i (by omega))
theorem MU {g:G} {ss:List Sg} {tl:List PV} (h:Db g ss tl):(∀ p∈tl,Ad 4 p=true)∧tl.length≤1:=by
 unfold Db at h
 split at h
 ·refine oEEA h fun a t z0 _=>?_;subst z0
  refine ⟨fun p hp=>?_,by simp⟩
  simp at hp;subst hp
  have:Fb.cps.all (·<0x110000)=true:=by decide +kernel
  exact pl3 this
 ·subst h;simp
noncomputable abbrev Fk (is:List Nat) (own:PV) (ret:Int) (tl:Option VS) (out:Option VS) (c:Option VS) (N T:Nat) (R:Bool) (p:Option VS):VL :=
 [sv .host,sv (.lst (is.map vn)),sv (.imm own),sv .tab,sv (vi ret),tl,out,c,sv (vn N),sv (vn T),sv (vb R),p]
noncomputable abbrev ZO:List PS:=[.assign 11 (.call (.gl 110) [.loc 0,.loc 1,.loc 7,.loc 7]),.ite (.cmp .Eq (.loc 7) (.loc 9)) [.assign 11 (.bin .Add (.loc 11) (.loc 5))] [],.expr (.meth (.loc 6) 0 [.call (.gl 111) [.loc 3,.loc 2,.call (.gl 19) [.loc 11],.loc 4,.tup [],.int 0]])]
theorem IJ {a b:List VV} (h:a.length+b.length≤100000):Hz .Add (.lst a) (.lst b)=some (.lst (a++b)):=if_pos ⟨rfl,h⟩
theorem NJ {n:Nat} {own:PV} {ow:List PV} (ho:own=.tup ow) (hop:Ad 5 own=true) {is:List Nat} {ss:List Sg} (hl:is.length≤10) {ret:Int} {tl:List PV} {T N:Nat} (hT:T≤7) :
  ∀ (c k m:Nat) (out:List Nat) (tv x p:Option VS) (g:G),k+c=T+1→m+c≤1000→out.length+c≤100→(tv=sv (.lst (tl.map VV.imm))∨tv=some (.own (tl.map VV.imm)))→Db g ss tl→EE own g is ss→GK m g →
  ∃ tv' x' p' out' g',AU (Bv (AA (n+12)) ZO) (.one 7) ((List.range' k c).map vn) (Fk is own ret tv (some (.own (out.map vn))) x N T (RR ss) p) g=some (.next,Fk is own ret tv' (some (.own ((out++out').map vn))) x' N T (RR ss) p',g')∧C3 g g'∧GK (m+c) g' ∧
   out'.length=c∧∀ i,i<c→∃ j,out'[i]?=some j∧CD g' own ss ret tl (k+i) (k+i) (k+i==T) j:=by
 intro c
 induction c with
 | zero =>
  intro k m out tv x p g hk hm hol htv ht hs gk
  exact ⟨tv,x,p,[],g,by rw [List.append_nil];exact BA,.refl,gk,rfl,fun i hi=>absurd hi (by omega)⟩
 | succ c ih =>
  intro k m out tv x p g hk hm hol htv ht hs gk
  refine oEEAAA (MN (n:=n) gk (by omega) hs hl (c:=k) (mf:=k) (by omega)) fun ps g1 q1 q2 q3 q4=>?_
  have htl:=MU ht
  have hps:=q4.plain (by omega)
  have pl:∀ q∈ps++(if (k==T) then tl else []),Ad 4 q=true:=by
   intro q hq
   rcases mA hq with hq | hq
   ·exact hps q hq
   ·split at hq
    ·exact htl.1 q hq
    ·cases hq
  have hpl:(ps++(if (k==T) then tl else [])).length≤100:=by
   simp only [List.length_append,q4.len]
   split
   ·omega
   ·simp;omega
  refine oEEAAAA (G0 (n:=n+10) (w:=.imm (.tup (ps++(if (k==T) then tl else [])))) (ret:=ret) q3 (by omega) ho rfl hop pl) fun j g2 z1 z2 z3 z4 _=>?_
  let tv2:Option VS:=if (k==T) then sv (.lst (tl.map VV.imm)) else tv
  have htv2:tv2=sv (.lst (tl.map VV.imm))∨tv2=some (.own (tl.map VV.imm)):=by
   simp only [tv2];split
   ·exact .inl rfl
   ·exact htv
  refine oEEEEEAAAA (ih (k+1) (m+1) (out++[j]) tv2 (sv (vn k)) (sv (.lst ((ps++(if (k==T) then tl else [])).map VV.imm))) g2 (by omega) (by omega) (by simp;omega) htv2 ((ht.ext q2).ext z3) ((hs.ext q2).ext z3) z4) fun tv' x' p' out' g' w1 w2 w3 w4 w5=>?_
  refine ⟨tv',x',p',j::out',g',?_,(q2.trans z3).trans w2,by rw [show m+(c+1)=m+1+c by omega];exact w3,by simp [w4],fun i hi=>?_⟩
  ·have s1:VX (AA (n+12)) (.assign 11 (.call (.gl 110) [.loc 0,.loc 1,.loc 7,.loc 7])) (Fk is own ret tv (some (.own (out.map vn))) (sv (vn k)) N T (RR ss) p) g=some (.next,Fk is own ret tv (some (.own (out.map vn))) (sv (vn k)) N T (RR ss) (sv (.lst (ps.map VV.imm))),g1) :=
    AO rfl DP (AH rfl rfl (vs:=[.host,.lst (is.map vn),vn k,vn k]) rfl q1)
   have s2:VX (AA (n+12)) (.ite (.cmp .Eq (.loc 7) (.loc 9)) [.assign 11 (.bin .Add (.loc 11) (.loc 5))] []) (Fk is own ret tv (some (.own (out.map vn))) (sv (vn k)) N T (RR ss) (sv (.lst (ps.map VV.imm)))) g1=some (.next,Fk is own ret tv2 (some (.own (out.map vn))) (sv (vn k)) N T (RR ss) (sv (.lst ((ps++(if (k==T) then tl else [])).map VV.imm))),g1):=by
    by_cases hkT:k=T
    ·have b:(k==T)=true:=by simpa using hkT
     simp only [tv2,b,if_true]
     refine Ag (σ0:=Fk is own ret tv (some (.own (out.map vn))) (sv (vn k)) N T (RR ss) (sv (.lst (ps.map VV.imm)))) rfl (AK (x:=vn k) (y:=vn T) rfl rfl (Ak (decide_eq_true (by omega)))) (AD ?_ AG)
     have fzt:fz (locs (.bin .Add (.loc 11) (.loc 5))) (Fk is own ret tv (some (.own (out.map vn))) (sv (vn k)) N T (RR ss) (sv (.lst (ps.map VV.imm))))=Fk is own ret (sv (.lst (tl.map VV.imm))) (some (.own (out.map vn))) (sv (vn k)) N T (RR ss) (sv (.lst (ps.map VV.imm))):=by
      rcases htv with rfl | rfl<;>rfl
     rw [List.map_append]
     exact AO fzt rfl (Aj (x:=.lst (ps.map VV.imm)) (y:=.lst (tl.map VV.imm)) (g1:=g1) (g2:=g1) rfl rfl (IJ (by simp [q4.len];omega)))
    ·have b:(k==T)=false:=by simpa using hkT
     simp only [tv2,b,Bool.false_eq_true,if_false,List.append_nil]
     exact Ag (σ0:=Fk is own ret tv (some (.own (out.map vn))) (sv (vn k)) N T (RR ss) (sv (.lst (ps.map VV.imm)))) rfl (AK (x:=vn k) (y:=vn T) rfl rfl (Ak (decide_eq_false (by omega)))) AG
   have s3:VX (AA (n+12)) (.expr (.meth (.loc 6) 0 [.call (.gl 111) [.loc 3,.loc 2,.call (.gl 19) [.loc 11],.loc 4,.tup [],.int 0]])) (Fk is own ret tv2 (some (.own (out.map vn))) (sv (vn k)) N T (RR ss) (sv (.lst ((ps++(if (k==T) then tl else [])).map VV.imm)))) g1=some (.next,Fk is own ret tv2 (some (.own ((out++[j]).map vn))) (sv (vn k)) N T (RR ss) (sv (.lst ((ps++(if (k==T) then tl else [])).map VV.imm))),g2):=by
    have:=Ao (C:=AA (n+12)) (i:=6) (a:=.call (.gl 111) [.loc 3,.loc 2,.call (.gl 19) [.loc 11],.loc 4,.tup [],.int 0]) (σ:=Fk is own ret tv2 (some (.own (out.map vn))) (sv (vn k)) N T (RR ss) (sv (.lst ((ps++(if (k==T) then tl else [])).map VV.imm)))) (σ0:=Fk is own ret tv2 (some (.own (out.map vn))) (sv (vn k)) N T (RR ss) (sv (.lst ((ps++(if (k==T) then tl else [])).map VV.imm)))) (g:=g1) (g1:=g2) (l:=out.map vn) (w:=vn j) rfl
     (AH rfl rfl (vs:=[.tab,.imm own,.imm (.tup (ps++(if (k==T) then tl else []))),vi ret,.imm (.tup []),vi 0]) (AB (v:=.tab) (g1:=g1) rfl (AB (v:=.imm own) (g1:=g1) rfl (AB (BH rfl rfl (vs:=[.lst ((ps++(if (k==T) then tl else [])).map VV.imm)]) rfl (Ex (by omega))) rfl))) z1) rfl (by simp;omega)
    rw [this];simp
   rw [List.range'_succ,List.map_cons]
   refine Ab (σ1:=Fk is own ret tv (some (.own (out.map vn))) (sv (vn k)) N T (RR ss) p) rfl (AD s1 (AD s2 (AD s3 AG))) ?_
   rw [w1];simp
  ·cases i with
   | zero=>exact ⟨j,rfl,CD.ext (g:=g2) ⟨ps,q4.ext z3,z2⟩ w2⟩
   | succ i =>
    refine oEA (w5 i (by omega)) fun j' h1 h2=>?_
    refine ⟨j',by simpa using h1,?_⟩
    rw [show k+(i+1)=k+1+i by omega];exact h2
theorem GK.up {m m':Nat} {g:G} (h:GK m g) (e:m≤m'):GK m' g:=⟨h.base,h.nd,h.un,Nat.le_trans h.cnt e⟩
theorem Tl (l:List Nat):l.map vn=(l.map fun j:Nat=>PV.int j).map VV.imm:=by rw [List.map_map];rfl
theorem IS {n m:Nat} {g:G} {own:PV} {ow:List PV} {is:List Nat} {ss:List Sg} (gk:GK m g) (hm:m≤900) (ho:own=.tup ow) (hop:Ad 5 own=true) (h:EE own g is ss) (hl:is.length≤10) (hT:TT ss≤7) (hn:∀ j,j<TT ss→Ah ss j≠none) :
  ∃ both g',AA (n+13) (.fn 54) [.host,.lst (is.map vn),.imm own] g=some (.imm (.tup (both.map fun j:Nat=>PV.int j)),g')∧C3 g g'∧GK (m+20) g'∧Jn own g' ss both:=by
 have hNT:=Qj ss
 refine oEAA (SF (n:=n+1) gk (by omega) h) fun g1 a1 a2 a3=>?_
 obtain ⟨ret,g2,b1,b2,b3,b4⟩:=Qq (n:=n+8) a3 (by omega) (h.ext a2) hl
 have e2:=a2.trans b2
 have s0:∀ (v:VV) (gz:G),Rt (AA (n+12)) (BI.body.drop 4) (Fk is own ret (some (.own [])) none none (NN ss) (TT ss) (RR ss) none) g2 v gz→AA (n+13) (.fn 54) [.host,.lst (is.map vn),.imm own] g=some (v,gz):=by
  intro v gz hr
  subst ho
  refine AX (σ:=[sv .host,sv (.lst (is.map vn)),sv (.imm (.tup ow)),none,none,none,none,none,none,none,none,none]) rfl rfl (by decide) (AF (AE rfl) rfl (w:=.tab) (g1:=g) rfl ?_)
  refine Dl (AE rfl) (AH rfl rfl (vs:=[.host,.lst (is.map vn)]) rfl a1) rfl ?_
  refine AF (σ0:=[sv .host,sv (.lst (is.map vn)),sv (.imm (.tup ow)),sv .tab,none,none,none,none,sv (vn (NN ss)),sv (vn (TT ss)),sv (vb (RR ss)),none]) rfl rfl (AH rfl rfl (vs:=[.tab,.lst (is.map vn)]) rfl b1) ?_
  exact B5 (σ0:=[sv .host,sv (.lst (is.map vn)),sv (.imm (.tup ow)),sv .tab,sv (vi ret),none,none,none,sv (vn (NN ss)),sv (vn (TT ss)),sv (vb (RR ss)),none]) rfl rfl hr
 have tail:∃ tl g3,Db g3 ss tl∧C3 g2 g3∧GK (m+1) g3∧∀ (v:VV) (gz:G),Rt (AA (n+12)) (BI.body.drop 5) (Fk is own ret (some (.own (tl.map VV.imm))) none none (NN ss) (TT ss) (RR ss) none) g3 v gz→Rt (AA (n+12)) (BI.body.drop 4) (Fk is own ret (some (.own [])) none none (NN ss) (TT ss) (RR ss) none) g2 v gz:=by
  cases hR:RR ss with
  | false =>
   refine ⟨[],g2,by unfold Db;rw [hR];simp,.refl,b3.up (by omega),fun v gz hr=>?_⟩
   exact As (σ0:=Fk is own ret (some (.own [])) none none (NN ss) (TT ss) false none) rfl (by rfl) hr
  | true =>
   obtain ⟨t,g3,c1,c2,c3,c4⟩:=Ky (n:=n+1) b3 (by omega) (h.ext e2) hl (TT ss)
   refine oEEAAA (G3 (n:=n+10) (t:=t) (ro:=0) c3 (by omega)) fun a g4 d1 d2 d3 d4=>?_
   refine ⟨[.tup [.str Fb,.int a,.int 2]],g4,by unfold Db;rw [if_pos hR];exact ⟨a,t,rfl,d2,c4.ext d3⟩,c2.trans d3,d4,fun v gz hr=>?_⟩
   refine Av (σ1:=Fk is own ret (some (.own [.imm (.tup [.str Fb,.int a,.int 2])])) none none (NN ss) (TT ss) true none) (g1:=g4) ?_ hr
   refine Ag (σ0:=Fk is own ret (some (.own [])) none none (NN ss) (TT ss) true none) (b:=true) (g1:=g2) rfl (by rfl) (AD (σ1:=Fk is own ret (some (.own [.imm (.tup [.str Fb,.int a,.int 2])])) none none (NN ss) (TT ss) true none) (g1:=g4) ?_ AG)
   refine Ry (σ0:=Fk is own ret (some (.own [])) none none (NN ss) (TT ss) true none) (vs:=[.imm (.tup [.str Fb,.int a,.int 2])]) rfl (AB (v:=.imm (.tup [.str Fb,.int a,.int 2])) (g1:=g4) (CL (vs:=[.imm (.str Fb),vn a,vi 2]) (AB (v:=.imm (.str Fb)) (g1:=g2) rfl (AB (AH rfl rfl (vs:=[.tab,vi t,vi 0]) (AB (v:=.tab) (g1:=g2) rfl (AB (AH rfl rfl (vs:=[.host,.lst (is.map vn),vn (TT ss)]) rfl c1) rfl)) d1) rfl))) AR)
 refine oEEAAA tail fun tl g3 t1 t2 t3 t4=>?_
 have e3:=e2.trans t2
 refine oEAA (U7 (n:=n) t3 (by omega) (h.ext e3) hl (by omega) hn) fun g4 u1 u2 u3=>?_
 have e4:=e3.trans u2
 have uc:VT (AA (n+12)) (.call (.gl 109) [.loc 0,.loc 1,.loc 8,.loc 9]) (VE (AA (n+12)) (.call (.gl 109) [.loc 0,.loc 1,.loc 8,.loc 9])) (Fk is own ret (some (.own (tl.map VV.imm))) none none (NN ss) (TT ss) (RR ss) none) g3=some (BC ss,g4) :=
  Jp (w:=vb (BC ss)) rfl (AH rfl rfl (vs:=[.host,.lst (is.map vn),vn (NN ss),vn (TT ss)]) rfl u1) rfl
 have htl:=MU t1
 cases hU:BC ss with
 | true =>
  rw [hU] at uc
  refine oEEAAA (MN (n:=n) u3 (by omega) (h.ext e4) hl (c:=TT ss) (mf:=NN ss) (by omega)) fun ps g5 q1 q2 q3 q4=>?_
  have hps:=q4.plain (by omega)
  have hpl:(ps++tl).length≤100:=by simp [q4.len];omega
  refine oEEAAAA (G0 (n:=n+10) (w:=.imm (.tup (ps++tl))) (ret:=ret) q3 (by omega) ho rfl hop fun q hq=>(mA hq).elim (hps q) (htl.1 q)) fun j g6 z1 z2 z3 z4 _=>?_
  have e6:=(e4.trans q2).trans z3
  refine ⟨[j],g6,s0 _ _ (t4 _ _ ?_),e6,z4.up (by omega),⟨ret,tl,b4.ext (t2.trans (u2.trans (q2.trans z3))),t1.ext (u2.trans (q2.trans z3)),?_⟩⟩
  ·refine Cm (σ0:=Fk is own ret (some (.own (tl.map VV.imm))) none none (NN ss) (TT ss) (RR ss) none) rfl uc ?_
   refine AF (σ0:=Fk is own ret (sv (.lst (tl.map VV.imm))) none none (NN ss) (TT ss) (RR ss) none) rfl rfl (Aj (x:=.lst (ps.map VV.imm)) (y:=.lst (tl.map VV.imm)) (g1:=g5) (g2:=g5) (AH rfl rfl (vs:=[.host,.lst (is.map vn),vn (TT ss),vn (NN ss)]) rfl q1) rfl (IJ (by simp [q4.len];omega))) ?_
   rw [←List.map_append]
   refine AS (σ0:=Fk is own ret (sv (.lst (tl.map VV.imm))) none none (NN ss) (TT ss) (RR ss) (sv (.lst ((ps++tl).map VV.imm)))) rfl (CL (vs:=[vn j]) (AB (AH rfl rfl (vs:=[.tab,.imm own,.imm (.tup (ps++tl)),vi ret,.imm (.tup []),vi 0]) (AB (v:=.tab) (g1:=g5) rfl (AB (v:=.imm own) (g1:=g5) rfl (AB (BH rfl rfl (vs:=[.lst ((ps++tl).map VV.imm)]) rfl (Ex (by omega))) rfl))) z1) AR))
  ·rw [if_pos hU]
   exact ⟨j,rfl,ps,q4.ext z3,by simpa using z2⟩
 | false =>
  rw [hU] at uc
  refine oEEEEEAAAA (NJ (n:=n) ho hop (is:=is) (ss:=ss) hl (ret:=ret) (tl:=tl) (T:=TT ss) (N:=NN ss) hT (TT ss+1-NN ss) (NN ss) (m+1) [] (some (.own (tl.map VV.imm))) none none g4 (by omega) (by omega) (by simp;omega) (.inr rfl) (t1.ext u2) (h.ext e4) u3) fun tv' x' p' out' g5 w1 w2 w3 w4 w5=>?_
  have e5:=e4.trans w2
  rw [List.nil_append] at w1
  refine ⟨out',g5,s0 _ _ (t4 _ _ ?_),e5,w3.up (by omega),⟨ret,tl,b4.ext (t2.trans (u2.trans w2)),t1.ext (u2.trans w2),?_⟩⟩
  ·refine As (σ0:=Fk is own ret (some (.own (tl.map VV.imm))) none none (NN ss) (TT ss) (RR ss) none) rfl uc ?_
   refine B5 (σ0:=Fk is own ret (some (.own (tl.map VV.imm))) none none (NN ss) (TT ss) (RR ss) none) rfl rfl ?_
   refine Ai (σ0:=Fk is own ret (some (.own (tl.map VV.imm))) (some (.own [])) none (NN ss) (TT ss) (RR ss) none) (w:=.imm (.rng (NN ss) ((TT ss+1:Nat):Int))) (g1:=g4) rfl (BH rfl rfl (vs:=[vn (NN ss),vn (TT ss+1)]) (AB (v:=vn (NN ss)) (g1:=g4) rfl (AB (Aj (x:=vn (TT ss)) (y:=vi 1) (g1:=g4) (g2:=g4) rfl rfl rfl) AR)) rfl) (DB (by omega) (by omega)) w1 ?_
   refine AS (σ0:=Fk is own ret tv' (some (.own (out'.map vn))) x' (NN ss) (TT ss) (RR ss) p') rfl (UJ rfl rfl (a:=.lst (out'.map vn)) ?_)
   rw [Tl]
   exact Ex (by simp [w4];omega)
  ·rw [if_neg (by simp [hU])]
   refine ⟨by rw [w4];omega,fun c hc=>?_⟩
   exact w5 c (by omega)
noncomputable def ma (a:Int):Nat:=if a=0∨a=1 then 2047 else if a=3 then 513 else if a=4 then 1 else if a=5 then 2 else if a=6 then 28 else if a=7 then 96 else if a=8 then 128 else if a=9 then 256 else if a=16 then 4 else if a=17 then 8 else 32
noncomputable def RE:List Nat→Nat
 | []=>0
 | a::l=>a|||RE l
noncomputable def Ap (K:Kn):Nat:=RE ((toS K).map ma)
noncomputable def BN (K:Kn) (i:Nat):Bool:=AI.any fun a=>K a&&(ma a).testBit i
theorem P5 (l:List Nat) (i:Nat):(RE l).testBit i=l.any fun a=>a.testBit i:=by
 induction l with
 | nil=>simp [RE]
 | cons a l ih=>simp [RE,ih]
theorem A0 (K:Kn) (i:Nat):(Ap K).testBit i=BN K i:=by
 unfold Ap BN toS
 rw [P5,List.any_map,List.any_filter]
 rfl
theorem X6:∀ a∈AI,ma a<2 ^ 11:=by decide
theorem ZH (i:Nat) (h:11≤i):∀ a∈AI,(ma a).testBit i=false:=fun a ha =>
 Nat.testBit_lt_two_pow (Nat.lt_of_lt_of_le (X6 a ha) (Nat.pow_le_pow_right (by omega) h))
theorem II (K:Kn) {i:Nat} (h:11≤i):BN K i=false:=by
 unfold BN
 rw [List.any_eq_false]
 intro a ha
 simp [ZH i h a ha]
noncomputable def bl (i:Nat):List Int:=AI.filter fun a=>(ma a).testBit i
theorem bk (K:Kn) (i:Nat):BN K i=(bl i).any K:=by
 unfold bl BN
 rw [List.any_filter]
 exact congrArg _ (funext fun a=>Bool.and_comm _ _)
theorem ABB:∀ {a b c d:Bool},(a||(b||(c||(d||false))))=(a||b||c||d):=by decide
theorem ABC:∀ {a b c:Bool},(a||(b||(c||false)))=(a||b||c):=by decide
theorem ABD:∀ {a b:Bool},(a||(b||false))=(a||b):=by decide
theorem YU (K:Kn):BN K 0=(K 0||K 1||K 3||K 4):=(bk K 0).trans ABB
theorem Zw (K:Kn):BN K 9=(K 0||K 1||K 3):=(bk K 9).trans ABC
theorem QY (K:Kn):BN K 10=(K 0||K 1):=(bk K 10).trans ABD
theorem AA0:∀ i,i<10→∃ t c,tp c=t∧tp t=t∧(c != 0&&c != 1)=true∧(t != 0&&t != 1)=true∧(bl i=[0,1,t,c]∨(c=t∧bl i=[0,1,t])) :=
 Hm (Hm (Hm (Hm (Hm (Hm (Hm (Hm (Hm (Hm lt0 ⟨3,4,rfl,rfl,rfl,rfl,.inl rfl⟩) ⟨5,5,rfl,rfl,rfl,rfl,.inr ⟨rfl,rfl⟩⟩) ⟨6,16,rfl,rfl,rfl,rfl,.inl rfl⟩) ⟨6,17,rfl,rfl,rfl,rfl,.inl rfl⟩) ⟨6,6,rfl,rfl,rfl,rfl,.inr ⟨rfl,rfl⟩⟩)
  ⟨7,18,rfl,rfl,rfl,rfl,.inl rfl⟩) ⟨7,7,rfl,rfl,rfl,rfl,.inr ⟨rfl,rfl⟩⟩) ⟨8,8,rfl,rfl,rfl,rfl,.inr ⟨rfl,rfl⟩⟩) ⟨9,9,rfl,rfl,rfl,rfl,.inr ⟨rfl,rfl⟩⟩) ⟨3,3,rfl,rfl,rfl,rfl,.inr ⟨rfl,rfl⟩⟩
theorem V3 {K L:Kn} (h:∀ i,i<11→BN K i=BN L i):Ap K=Ap L:=by
 refine Nat.eq_of_testBit_eq fun i=>?_
 rw [A0,A0]
 by_cases hi:i<11
 ·exact h i hi
 ·rw [II K (by omega),II L (by omega)]
theorem LQ:∀ i,i<11→(ma 0).testBit i=true∧(ma 1).testBit i=true∧(((ma 16).testBit i=true∨(ma 17).testBit i=true)→(ma 6).testBit i=true)∧((ma 18).testBit i=true→(ma 7).testBit i=true):=by decide
theorem ED {K:Kn} {i:Nat} (a:Int) (ha:a∈AI) (k:K a=true) (h:(ma a).testBit i=true):BN K i=true:=List.any_eq_true.mpr ⟨a,ha,Bool.and_eq_true_iff.mpr ⟨k,h⟩⟩
theorem P8 {K:Kn} {a:Int} (h:By K a=true):K a=true:=by
 cases h0:K 0 with
 | true=>exact beq_iff_eq.mp ((OY h0).symm.trans h)▸h0
 | false =>
  cases h1:K 1 with
  | true=>exact beq_iff_eq.mp ((Ms h0 h1).symm.trans h)▸h1
  | false=>exact b_3 ((EN h0 h1).symm.trans h)
theorem ABF:∀ {k p q s r t:Bool},k=true→(k&&!((p||q)&&s)&&!(r&&t))=true∨(p=true∧s=true)∨(q=true∧s=true)∨(r=true∧t=true):=by decide
theorem b_6:∀ {k a b:Bool},k=true→(k&&!(false&&a)&&!(false&&b))=true:=by decide
theorem Ud (K:Kn):∀ i,i<11→BN (By K) i=BN K i:=by
 intro i hi
 refine RF (LQ i hi) fun f0 f1 f6 f7=>?_
 refine Bool.eq_iff_iff.mpr ⟨fun h=>?_,fun h=>?_⟩
 ·refine oEA (List.any_eq_true.mp h) fun a ha h=>?_
  refine oA (Bool.and_eq_true_iff.mp h) fun k b=>?_
  exact ED a ha (P8 k) b
 ·refine oEA (List.any_eq_true.mp h) fun a ha h=>?_
  refine oA (Bool.and_eq_true_iff.mp h) fun k b=>?_
  cases h0:K 0 with
  | true=>exact ED 0 (by decide) (OY h0) f0
  | false =>
   cases h1:K 1 with
   | true=>exact ED 1 (by decide) (Ms h0 h1) f1
   | false =>
    refine Or.elim (ABF (p:=a==16) (q:=a==17) (s:=K 6) (r:=a==18) (t:=K 7) k) (fun e=>?_) fun z4=>Or.elim z4 (fun z1=>oA z1 fun e s=>?_) fun z4=>Or.elim z4 (fun z2=>oA z2 fun e s=>?_) fun z3=>oA z3 fun e s=>?_
    ·exact ED a ha ((EN h0 h1).trans e) b
    ·exact ED 6 (by decide) ((EN h0 h1).trans (b_6 s)) (f6 (.inl (beq_iff_eq.mp e▸b)))
    ·exact ED 6 (by decide) ((EN h0 h1).trans (b_6 s)) (f6 (.inr (beq_iff_eq.mp e▸b)))
    ·exact ED 7 (by decide) ((EN h0 h1).trans (b_6 s)) (f7 (beq_iff_eq.mp e▸b))
theorem QD (K:Kn):Ap (By K)=Ap K:=V3 (Ud K)
theorem Te (K L:Kn):Ap (By fun a=>K a||L a)=Ap K|||Ap L:=by
 rw [QD]
 refine Nat.eq_of_testBit_eq fun i=>?_
 rw [Nat.testBit_or,A0,A0,A0]
 unfold BN
 rw [Bool.eq_iff_iff]
 simp only [List.any_eq_true,Bool.or_eq_true,Bool.and_eq_true]
 constructor
 ·rintro ⟨a,ha,h | h,hb⟩
  ·exact .inl ⟨a,ha,h,hb⟩
  ·exact .inr ⟨a,ha,h,hb⟩
 ·rintro (⟨a,ha,h,hb⟩ | ⟨a,ha,h,hb⟩)
  ·exact ⟨a,ha,.inl h,hb⟩
  ·exact ⟨a,ha,.inr h,hb⟩
noncomputable def WK (w:Bool) (K:Kn):Prop:=if w=true then K 0=false∧K 1=false else K 3=false
noncomputable def one (a:Int):Kn:=fun c=>c==a
noncomputable def SZ (w:Bool):List (Int×Kn) :=
 [(6,one 6),(16,one 16),(7,one 7),(4,one 4),(17,one 17),(18,one 18),(9,one 9),(12,fun c=>c==8||c==9),(5,one 5),(2,fun _=>false)]++if w then [(3,one 3),(3,one 3)] else [(0,one 0),(1,one 1)]
noncomputable def Bo (w:Bool):VV:=.lst ((SZ w).map fun e=>.imm (.tup [.int e.1,.int (Ap e.2)]))
theorem WB {m:Nat} {g:G} (gk:GK m g):Kd g 12 (fun c=>c==8||c==9):=by
 have hS:toS (fun c=>c==8||c==9)=[8,9]:=by decide
 exact ⟨by decide,.inr (.inr ⟨by rw [hS];decide,12,rfl,by rw [hS];exact gk.row rfl⟩)⟩
theorem K4 {m:Nat} {g:G} (gk:GK m g) (w:Bool):∀ e∈SZ w,Kd g e.1 e.2∧WK w e.2:=by
 have h1:∀ e∈[((6:Int),one 6),(16,one 16),(7,one 7),(4,one 4),(17,one 17),(18,one 18),(9,one 9),(12,fun c=>c==8||c==9),(5,one 5),(2,fun _=>false)],Kd g e.1 e.2∧WK w e.2:=by
  simp only [List.forall_mem_cons,List.not_mem_nil,false_implies,implies_true,and_true]
  refine ⟨⟨A7 (by decide),?_⟩,⟨A7 (by decide),?_⟩,⟨A7 (by decide),?_⟩,⟨A7 (by decide),?_⟩,⟨A7 (by decide),?_⟩,⟨A7 (by decide),?_⟩,⟨A7 (by decide),?_⟩,⟨WB gk,?_⟩,⟨A7 (by decide),?_⟩,⟨kd2,?_⟩⟩<;>(cases w<;>simp [WK,one])
 intro e he
 unfold SZ at he
 rcases mA he with he | he
 ·exact h1 e he
 ·cases w with
  | true=>simp at he;rw [he];exact ⟨A7 (by decide),by simp [WK,one]⟩
  | false =>
   simp at he
   rcases he with rfl | rfl
   ·exact ⟨A7 (by decide),by simp [WK,one]⟩
   ·exact ⟨A7 (by decide),by simp [WK,one]⟩
theorem K5 (w:Bool):(SZ w).length=12:=by cases w<;>rfl
theorem OD (w:Bool) {i:Nat} (h:i<12):∃ e,(SZ w)[i]?=some e:=⟨_,List.getElem?_eq_getElem (by rw [K5];exact h)⟩
theorem WK.or {w:Bool} {K L:Kn} (h:WK w K) (h':WK w L):WK w (By fun a=>K a||L a):=by
 have no:∀ c,K c=false→L c=false→By (fun a=>K a||L a) c=false:=fun c a b=>Bool.eq_false_iff.mpr fun e=>by
  have:=P8 e
  rw [a,b] at this;cases this
 cases w with
 | true=>exact ⟨no 0 h.1 h'.1,no 1 h.2 h'.2⟩
 | false=>exact no 3 h h'
theorem GF {n:Nat} {g:G} {k:Nat} (hk:0<k) (hs:g.scr.length≤100000):∃ (x:Nat) (g':G),AA (n+1) (.fn 55) [.dd,vn k] g=some (vn x,g')∧x<k∧C3 g g'∧g'.rows=g.rows:=by
 obtain ⟨y,hy⟩:∃ y:Int,AA (n+1) (.fn 55) [.dd,vn k] g=some (vi (y.fmod k),{ g with pos:=g.pos+1 }):=⟨_,if_pos ⟨by omega,hs⟩⟩
 have h1:=Int.fmod_nonneg_of_pos y (b:=(k:Int)) (by omega)
 have h2:=Int.fmod_lt_of_pos y (b:=(k:Int)) (by omega)
 refine ⟨(y.fmod k).toNat,{ g with pos:=g.pos+1 },hy.trans ?_,by omega,⟨⟨[],by simp⟩,rfl,rfl⟩,rfl⟩
 rw [show vi (y.fmod k)=vn (y.fmod k).toNat by show vi _=vi _;congr 1;omega]
theorem GK.same {m:Nat} {g g':G} (h:GK m g) (e:g'.rows=g.rows):GK m g':=by
 obtain ⟨h1,h2,h3,h4⟩:=h
 exact ⟨by rw [e];exact h1,by rw [e];exact h2,by rw [e];exact h3,by rw [e];exact h4⟩
theorem ZZ (a b:Nat):((a:Int)).fmod (b:Int)=((a%b:Nat):Int):=by rw [Int.fmod_eq_emod_of_nonneg _ (by omega)];rfl
theorem Za (a b:Nat):((a:Int)).fdiv (b:Int)=((a / b:Nat):Int):=by rw [Int.fdiv_eq_ediv_of_nonneg _ (by omega)];rfl
theorem Zc {a b:Nat} (hb:b≠0):intOp .Mod (a:Int) (b:Int)=some ((a%b:Nat):Int):=(if_pos (by omega)).trans (congrArg some (ZZ a b))
theorem Zd {a b:Nat} (hb:b≠0) (h1:a<2 ^ 30) (h2:b<2 ^ 30):intOp .FloorDiv (a:Int) (b:Int)=some ((a / b:Nat):Int):=(if_pos ⟨by omega,h1,h2⟩).trans (congrArg some (Za a b))
section
variable {C:VC} {σ σ0:VL} {g g1 g2:G} {v w x y:VV}
theorem U2 {t:PT} {it:PE} {body:List PS} {its:List VV} {z:VR} (hσ:fz (locs it) σ=σ0) (h:VE C it σ0 g=some (w,g1)) (hi:Bs w=some its) (hl:AU (Bv C body) t its σ0 g1=z):VX C (.loop t it body) σ g=z:=by
 subst hσ;exact AJ h (AJ hi hl)
theorem YM {a b:PE} (ha:VE C a σ g=some (x,g1)) (hb:VE C b σ g1=some (y,g2)) (h:Wl x y=some v):VE C (.slTo a b) σ g=some (v,g2):=AJ ha (AJ hb (Bz h))
theorem Nb {a b:PE} (ha:VE C a σ g=some (x,g1)) (hb:VE C b σ g1=some (y,g2)) (h:LB x y=some v):VE C (.slFrom a b) σ g=some (v,g2):=AJ ha (AJ hb (Bz h))
theorem Zh {a:PE} (ha:VE C a σ g=some (x,g1)) (h:Y4 x=some v):VE C (.rev a) σ g=some (v,g1):=AJ ha (Bz h)
end
theorem IK {op:Operator} {x y z:Int} (h:intOp op x y=some z):Hz op (vi x) (vi y)=some (vi z):=Bz h
theorem CZ {a b:Nat} (hb:b≠0):Hz .Mod (vn a) (vn b)=some (vn (a%b)):=IK (Zc hb)
theorem Gx {a b:Nat} (hb:b≠0) (h1:a<2 ^ 30) (h2:b<2 ^ 30):Hz .FloorDiv (vn a) (vn b)=some (vn (a / b)):=IK (Zd hb h1 h2)
theorem YI (a b:Nat):intOp .BitOr (a:Int) (b:Int)=some ((a|||b:Nat):Int):=by
 show (if (0:Int)≤(a:Int)∧(0:Int)≤(b:Int) then some (((a:Int).toNat|||(b:Int).toNat:Nat):Int) else none)=_
 rw [if_pos ⟨Int.natCast_nonneg a,Int.natCast_nonneg b⟩];rfl
theorem Ze (a b:Nat):intOp .BitAnd (a:Int) (b:Int)=some ((a&&&b:Nat):Int):=by
 show (if (0:Int)≤(a:Int)∧(0:Int)≤(b:Int) then some (((a:Int).toNat&&&(b:Int).toNat:Nat):Int) else none)=_
 rw [if_pos ⟨Int.natCast_nonneg a,Int.natCast_nonneg b⟩];rfl
theorem Uf (a b:Nat):Hz .BitOr (vn a) (vn b)=some (vn (a|||b)):=IK (YI a b)
theorem QZ (a b:Nat):Hz .BitAnd (vn a) (vn b)=some (vn (a&&&b)):=IK (Ze a b)
theorem Lz {a b:Nat} (h:b≤a):Hz .Sub (vn a) (vn b)=some (vn (a-b)):=by
 show some (vi ((a:Int)-(b:Int)))=_
 congr 3;omega
theorem Kz {n m:Nat} {w:Bool} {g:G} (gk:GK m g) (hm:m≤1000) (hs:g.scr.length≤100000) :
  ∃ t K g',AA (n+4) (.fn 57) [.dd,.tab,Bo w] g=some (.imm (.tup [.int t,.int (Ap K)]),g')∧C3 g g'∧GK m g'∧Kd g' t K∧WK w K:=by
 refine oEEAAA (GF (n:=n+2) (g:=g) (k:=432) (by decide) hs) fun x g1 p1 p2 p3 p4=>?_
 have gk1:=gk.same p4
 refine oE (OD w (i:=x%12) (by omega)) fun z0 hi=>?_;obtain ⟨t,K⟩:=z0
 have ok:=K4 gk1 w _ (List.mem_of_getElem? hi)
 have item:∀ (i:Nat) e,(SZ w)[i]?=some e→∀ g:G,GG g (Bo w) (vn i)=some (.imm (.tup [.int e.1,.int (Ap e.2)])):=fun i e he g=>by
  refine E5 (by rw [List.length_map,K5];decide) ?_
  rw [List.getElem?_map,he];rfl
 have start:∀ v gz,Rt (AA (n+3)) (D7.body.drop 2) [sv .dd,sv .tab,sv (Bo w),sv (vn x),sv (vi t),sv (vn (Ap K)),none,none] g1 v gz→AA (n+4) (.fn 57) [.dd,.tab,Bo w] g=some (v,gz):=fun v gz hr =>
  AX (σ:=[sv .dd,sv .tab,sv (Bo w),none,none,none,none,none]) rfl rfl (by decide) (AF (AE rfl) DP (AH rfl rfl (vs:=[.dd,vi 432]) rfl p1) (Dl (AE rfl) (Af (w:=Bo w) (g1:=g1) (k:=vn (x%12)) rfl rfl (Aj (x:=vn x) (y:=vi 12) (g1:=g1) (g2:=g1) rfl rfl (CZ (by decide))) (item _ _ hi g1)) rfl hr))
 by_cases hx:288≤x
 ·refine oE (OD w (i:=x / 12-24) (by omega)) fun z0 hi'=>?_;obtain ⟨t',K'⟩:=z0
  have ok':=K4 gk1 w _ (List.mem_of_getElem? hi')
  obtain ⟨u,g2,q1,q2,q3,q4⟩:=E3 (n:=n) (w:=.lst [vi t,vi t']) gk1 hm (ts:=[t,t']) rfl (.cons ok.1 (.cons ok'.1 .nil))
  have q4':Kd g2 u (By fun a=>K a||K' a):=q4.congr (DY fun b _=>by simp [BS])
  refine ⟨u,By fun a=>K a||K' a,g2,start _ _ ?_,p3.trans q2,q3,q4',ok.2.or ok'.2⟩
  rw [Te]
  refine Cm (AE rfl) (AK (x:=vn x) (y:=vi 288) rfl rfl (EA (decide_eq_true (by omega)))) ?_
  refine Dl (AE rfl) (Af (w:=Bo w) (g1:=g1) (k:=vn (x / 12-24)) rfl rfl (Aj (x:=vn (x / 12)) (y:=vi 24) (g1:=g1) (g2:=g1) (Aj (x:=vn x) (y:=vi 12) (g1:=g1) (g2:=g1) rfl rfl (Gx (by decide) (by omega) (by decide))) rfl (Lz (b:=24) (by omega))) (item _ _ hi' g1)) rfl ?_
  exact AS (AE rfl) (CL (vs:=[vi u,vn (Ap K|||Ap K')]) (AB (AH rfl rfl (vs:=[.tab,.lst [vi t,vi t']]) rfl q1) (AB (Aj (x:=vn (Ap K)) (y:=vn (Ap K')) (g1:=g2) (g2:=g2) rfl rfl (Uf _ _)) AR)))
 ·refine ⟨t,K,g1,start _ _ ?_,p3,gk1,ok.1,ok.2⟩
  exact As (AE rfl) (AK (x:=vn x) (y:=vi 288) rfl rfl (EA (decide_eq_false (by omega)))) (AS (AE rfl) rfl)
noncomputable abbrev ts1:PS:=At.body.getD 0 .stuck
noncomputable abbrev ts2:PS:=At.body.getD 1 .stuck
theorem J6 {n m:Nat} {g:G} {els:List Pl} {tl:Option (Int×Kn)} (gk:GK m g) (hm:m≤1000) (h2:els.length≤2) (hl:∀ p,els[0]?=some p→els.length=2→p.late=false) (hne:els≠[]∨tl=none) :
  ∃ (j:Nat) (g':G),AA (n+10) (.fn 10) [.tab,.lst ((els.map ev++SW tl).map VV.imm),vi 0] g=some (vn j,g')∧g'.rows[j]?=some (Al els tl)∧C3 g g'∧GK (m+1) g':=by
 have pl:(Al els tl).plain=true:=by
  have h1:∀ p,Ad 4 (ev p)=true:=fun p=>rfl
  have h3:(els.map ev++SW tl).all (Ad 4)=true:=by
   rw [List.all_append,List.all_map]
   have:els.all (Ad 4∘ev)=true:=List.all_eq_true.mpr fun p _=>h1 p
   rw [this]
   rcases tl with _ | ⟨_,_⟩<;>rfl
  exact Fh (BL rfl (BL (Fh h3) (BL rfl rfl)))
 refine oEEAAAA (GJ gk hm (r:=Al els tl) rfl pl fun h=>by cases h) fun j g' p1 p2 p3 p4 _=>?_
 refine ⟨j,g',?_,p2,p3,p4⟩
 have main:∀ (L:Int) (rows:List PV),els.map ev++SW tl=rows→VX (AA (n+9)) ts1 [sv .tab,sv (.lst (rows.map VV.imm)),sv (vi 0),none,none,none,none] g=some (.next,[sv .tab,sv (.lst (rows.map VV.imm)),sv (vi 0),sv (.lst (rows.map VV.imm)),none,none,none],g) →
   VX (AA (n+9)) ts2 [sv .tab,sv (.lst (rows.map VV.imm)),sv (vi 0),sv (.lst (rows.map VV.imm)),none,none,none] g=some (.next,[sv .tab,sv (.lst (rows.map VV.imm)),sv (vi 0),sv (.lst (rows.map VV.imm)),sv (vi L),none,none],g) →
   AA (n+10) (.fn 10) [.tab,.lst (rows.map VV.imm),vi 0] g=some (vn j,g'):=by
  intro L rows hr x1 x2
  refine AX (σ:=[sv .tab,sv (.lst (rows.map VV.imm)),sv (vi 0),none,none,none,none]) rfl rfl (by decide) (Av x1 (Av x2 (AS (AE rfl) ?_)))
  refine Fv (b:=.tab) (g1:=g) (vs:=[.imm (Al els tl)]) rfl (AB (v:=.imm (Al els tl)) (g1:=g) ?_ AR) p1
  unfold Al
  rw [hr]
  have hlen:rows.length≤100000:=by
   rw [←hr]
   have:(SW tl).length≤1:=by rcases tl with _ | ⟨_,_⟩<;>simp [SW]
   simp;omega
  exact CL (vs:=[vi 12,.imm (.tup rows),vi 0]) (AB rfl (AB (BH rfl rfl (vs:=[.lst (rows.map VV.imm)]) rfl (Ex hlen)) rfl))
 clear p2 p3 p4 pl hm gk
 revert h2 hl hne p1 main
 generalize els=l
 revert l
 refine Wt (fun hl hne p1 main=>?_) (fun _ t1 _ a hl hne p1 main=>?_) fun _ t1 _ a _ t2 _ b hl hne p1 main=>?_
 ·rcases tl with _ | ⟨t,K⟩
  ·exact main (-1) _ rfl (by kernel_rfl) (by kernel_rfl)
  ·exact hne.elim (absurd rfl) fun h=>nS h
 ·rcases tl with _ | ⟨t,K⟩<;>cases a
  ·exact main (-1) _ rfl (by kernel_rfl) (by kernel_rfl)
  ·exact main 0 _ rfl (by kernel_rfl) (by kernel_rfl)
  ·exact main 1 _ rfl (by kernel_rfl) (by kernel_rfl)
  ·exact main 1 _ rfl (by kernel_rfl) (by kernel_rfl)
 ·cases (hl _ rfl rfl:a=false)
  rcases tl with _ | ⟨t,K⟩<;>cases b
  ·exact main (-1) _ rfl (by kernel_rfl) (by kernel_rfl)
  ·exact main 1 _ rfl (by kernel_rfl) (by kernel_rfl)
  ·exact main 2 _ rfl (by kernel_rfl) (by kernel_rfl)
  ·exact main 2 _ rfl (by kernel_rfl) (by kernel_rfl)
theorem R8 {n m:Nat} {g:G} {t:Int} (gk:GK m g) (hm:m≤1000):∃ (j:Nat) (g':G),AA (n+10) (.fn 10) [.tab,.lst [.imm (.tup [.int t,.int 2])],vi 0] g=some (vn j,g')∧g'.rows[j]?=some (.tup [.int 11,.int t,.int 0])∧C3 g g'∧GK (m+1) g':=by
 refine oEEAAA (G3 (n:=n+7) (t:=t) (ro:=0) gk hm) fun j g' p1 p2 p3 p4=>?_
 refine ⟨j,g',?_,p2,p3,p4⟩
 have x1:VX (AA (n+9)) ts1 [sv .tab,sv (.lst [.imm (.tup [.int t,.int 2])]),sv (vi 0),none,none,none,none] g=some (.next,[sv .tab,sv (.lst [.imm (.tup [.int t,.int 2])]),sv (vi 0),sv (.lst [.imm (.tup [.int t,.int 2])]),none,none,none],g):=by kernel_rfl
 refine AX (σ:=[sv .tab,sv (.lst [.imm (.tup [.int t,.int 2])]),sv (vi 0),none,none,none,none]) rfl rfl (by decide) (Av x1 ?_)
 let σ1:VL:=[sv .tab,sv (.lst [.imm (.tup [.int t,.int 2])]),sv (vi 0),sv (.lst [.imm (.tup [.int t,.int 2])]),none,none,none]
 let σ2:VL:=[sv .tab,sv (.lst [.imm (.tup [.int t,.int 2])]),sv (vi 0),sv (.lst [.imm (.tup [.int t,.int 2])]),sv (vi 0),none,none]
 refine Cm (σ0:=σ1) (g1:=g) (AE rfl) (by kernel_rfl) ?_
 refine Av (σ1:=σ2) (g1:=g) (by kernel_rfl) (Av (σ1:=σ2) (g1:=g) (by kernel_rfl) ?_)
 refine Cm (σ0:=σ2) (g1:=g) (AE rfl) (by kernel_rfl) (AS (σ0:=σ2) (AE rfl) (AH rfl rfl (vs:=[.tab,vi t,vi 0]) (g1:=g) (by kernel_rfl) p1))
noncomputable def ER (p:Pl):VV:=.imm (.tup [.int (Ap p.K),.int (mk p.late)])
noncomputable def pN (k:Nat):Str:=sO "p"++Str.ofString (toString (k:Int))
theorem p_add:∀ k<8,Hz .Add (.imm (.str (sO "p"))) (.imm (.str (Str.ofString (toString ((k:Nat):Int)))))=some (.imm (.str (pN k))) :=
 Hm (Hm (Hm (Hm (Hm (Hm (Hm (Hm lt0 (by kernel_rfl)) (by kernel_rfl)) (by kernel_rfl)) (by kernel_rfl)) (by kernel_rfl)) (by kernel_rfl)) (by kernel_rfl)) (by kernel_rfl)
theorem Vy:∀ k<8,(pN k).cps.all (·<0x110000)=true:=by decide +kernel
structure Pe (w:Bool) (g:G) (p:Pl):Prop where
 kd:Kd g p.t p.K
 wk:WK w p.K
 pl:Ad 4 (pv p)=true
theorem Pe.ext {w:Bool} {g g':G} {p:Pl} (h:Pe w g p) (e:C3 g g'):Pe w g' p:=⟨h.kd.ext e,h.wk,h.pl⟩
noncomputable abbrev Bk (w:Bool) (x:Nat) (ps pl:Option VS) (tail:VV) (a b c d y el:Option VS):VL :=
 [sv .dd,sv .tab,sv (Bo w),sv (vn x),sv (vn (x / 12)),ps,pl,sv tail,a,b,c,d,y,el]
noncomputable abbrev Zu:List PS:=[.assignT [10,11] (.call (.gl 116) [.loc 0,.loc 1,.loc 2]),.assign 9 (.ite (.cmp .GtE (.loc 8) (.bin .Sub (.bin .Mod (.loc 3) (.int 4)) (.bin .Mod (.bin .FloorDiv (.loc 3) (.int 4)) (.int 3)))) (.int 1) (.int 0)),.expr (.meth (.loc 5) 0 [.tup [.bin .Add (.str (sO "p")) (.call (.gl 104) [.loc 8]),.loc 10,.ite (.loc 9) (.gl 88) (.gl 91)]]),.expr (.meth (.loc 6) 0 [.tup [.loc 11,.loc 9]])]
theorem OU {n m:Nat} {w:Bool} (hm:m≤1000) {x:Nat} (hx:x<72) {y el:Option VS}:∀ (c k:Nat) (fx:List Pl) (a b d e:Option VS) (g:G),k+c≤8→fx.length=k→(∀ p∈fx,Pe w g p)→GK m g→g.scr.length≤100000 →
  ∃ (fx':List Pl) (a' b' d' e':Option VS) (g':G),AU (Bv (AA (n+10)) Zu) (.one 8) ((List.range' k c).map vn) (Bk w x (some (.own (fx.map fun p=>.imm (pv p)))) (some (.own (fx.map ER))) (vi (-1)) a b d e y el) g=some (.next,Bk w x (some (.own (fx'.map fun p=>.imm (pv p)))) (some (.own (fx'.map ER))) (vi (-1)) a' b' d' e' y el,g')∧fx'.length=k+c∧(∀ p∈fx',Pe w g' p)∧GK m g'∧C3 g g':=by
 intro c
 induction c with
 | zero=>intro k fx a b d e g hk hl hf gk hs;exact ⟨fx,a,b,d,e,g,BA,hl,hf,gk,.refl⟩
 | succ c ih =>
  intro k fx a b d e g hk hl hf gk hs
  refine oEEEAAAA (Kz (n:=n+6) (w:=w) gk hm hs) fun t K g1 q1 q2 q3 q4 q5=>?_
  let late:Bool:=decide (((x%4:Nat):Int)-((x / 4%3:Nat):Int)≤(k:Int))
  let P:Pl:=⟨pN k,t,K,late⟩
  have hP:Pe w g1 P:=⟨q4,q5,pl3 (Vy k (by omega))⟩
  refine oEEEEEEAAAA (ih (k+1) (fx++[P]) (sv (vn k)) (sv (vi (mk late))) (sv (vi t)) (sv (vn (Ap K))) g1 (by omega) (by simp [hl]) (fun p hp=>by
   rcases mA hp with hp | hp
   ·exact (hf p hp).ext q2
   ·simp at hp;subst hp;exact hP) q3 (by rw [q2.scr];exact hs)) fun fx' a' b' d' e' g' z1 z2 z3 z4 z5=>?_
  refine ⟨fx',a',b',d',e',g',?_,by rw [z2];omega,z3,z4,q2.trans z5⟩
  rw [List.range'_succ,List.map_cons]
  let ps:=some (VS.own (fx.map fun p=>.imm (pv p)))
  let pl:=some (VS.own (fx.map ER))
  have s1:VX (AA (n+10)) (.assignT [10,11] (.call (.gl 116) [.loc 0,.loc 1,.loc 2])) (Bk w x ps pl (vi (-1)) (sv (vn k)) b d e y el) g=some (.next,Bk w x ps pl (vi (-1)) (sv (vn k)) b (sv (vi t)) (sv (vn (Ap K))) y el,g1) :=
   Ce (σ0:=Bk w x ps pl (vi (-1)) (sv (vn k)) b d e y el) rfl (AH rfl rfl (vs:=[.dd,.tab,Bo w]) rfl q1) rfl
  have s2:VX (AA (n+10)) (.assign 9 (.ite (.cmp .GtE (.loc 8) (.bin .Sub (.bin .Mod (.loc 3) (.int 4)) (.bin .Mod (.bin .FloorDiv (.loc 3) (.int 4)) (.int 3)))) (.int 1) (.int 0))) (Bk w x ps pl (vi (-1)) (sv (vn k)) b (sv (vi t)) (sv (vn (Ap K))) y el) g1=some (.next,Bk w x ps pl (vi (-1)) (sv (vn k)) (sv (vi (mk late))) (sv (vi t)) (sv (vn (Ap K))) y el,g1):=by
   refine AO (σ0:=Bk w x ps pl (vi (-1)) (sv (vn k)) b (sv (vi t)) (sv (vn (Ap K))) y el) rfl rfl (A9 (t:=late) (g1:=g1) (AK (x:=vn k) (y:=vi (((x%4:Nat):Int)-((x / 4%3:Nat):Int))) (g1:=g1) (g2:=g1) rfl (Aj (x:=vn (x%4)) (y:=vn (x / 4%3)) (g1:=g1) (g2:=g1) (Aj (x:=vn x) (y:=vi 4) (g1:=g1) (g2:=g1) rfl rfl (CZ (b:=4) (by decide))) (Aj (x:=vn (x / 4)) (y:=vi 3) (g1:=g1) (g2:=g1) (Aj (x:=vn x) (y:=vi 4) (g1:=g1) (g2:=g1) rfl rfl (Gx (b:=4) (by decide) (by omega) (by decide))) rfl (CZ (b:=3) (by decide))) rfl) (EA rfl)) ?_)
   cases late<;>rfl
  have s3:VX (AA (n+10)) (.expr (.meth (.loc 5) 0 [.tup [.bin .Add (.str (sO "p")) (.call (.gl 104) [.loc 8]),.loc 10,.ite (.loc 9) (.gl 88) (.gl 91)]])) (Bk w x ps pl (vi (-1)) (sv (vn k)) (sv (vi (mk late))) (sv (vi t)) (sv (vn (Ap K))) y el) g1=some (.next,Bk w x (some (.own ((fx++[P]).map fun p=>.imm (pv p)))) pl (vi (-1)) (sv (vn k)) (sv (vi (mk late))) (sv (vi t)) (sv (vn (Ap K))) y el,g1):=by
   have:=Ao (C:=AA (n+10)) (i:=5) (a:=.tup [.bin .Add (.str (sO "p")) (.call (.gl 104) [.loc 8]),.loc 10,.ite (.loc 9) (.gl 88) (.gl 91)]) (σ:=Bk w x ps pl (vi (-1)) (sv (vn k)) (sv (vi (mk late))) (sv (vi t)) (sv (vn (Ap K))) y el) (σ0:=Bk w x ps pl (vi (-1)) (sv (vn k)) (sv (vi (mk late))) (sv (vi t)) (sv (vn (Ap K))) y el) (g:=g1) (g1:=g1) (l:=fx.map fun p=>.imm (pv p)) (w:=.imm (pv P)) rfl
    (CL (vs:=[.imm (.str (pN k)),vi t,vi (mk late)]) (AB (Aj (x:=.imm (.str (sO "p"))) (y:=.imm (.str (Str.ofString (toString (k:Int))))) (g1:=g1) (g2:=g1) rfl (BH rfl rfl (vs:=[vn k]) rfl (if_pos (by omega))) (p_add k (by omega))) (AB (v:=vi t) (g1:=g1) rfl (AB (v:=vi (mk late)) (g1:=g1) (by cases late<;>rfl) AR)))) rfl (by simp;omega)
   rw [this];simp
  have s4:VX (AA (n+10)) (.expr (.meth (.loc 6) 0 [.tup [.loc 11,.loc 9]])) (Bk w x (some (.own ((fx++[P]).map fun p=>.imm (pv p)))) pl (vi (-1)) (sv (vn k)) (sv (vi (mk late))) (sv (vi t)) (sv (vn (Ap K))) y el) g1=some (.next,Bk w x (some (.own ((fx++[P]).map fun p=>.imm (pv p)))) (some (.own ((fx++[P]).map ER))) (vi (-1)) (sv (vn k)) (sv (vi (mk late))) (sv (vi t)) (sv (vn (Ap K))) y el,g1):=by
   have:=Ao (C:=AA (n+10)) (i:=6) (a:=.tup [.loc 11,.loc 9]) (σ:=Bk w x (some (.own ((fx++[P]).map fun p=>.imm (pv p)))) pl (vi (-1)) (sv (vn k)) (sv (vi (mk late))) (sv (vi t)) (sv (vn (Ap K))) y el) (σ0:=Bk w x (some (.own ((fx++[P]).map fun p=>.imm (pv p)))) pl (vi (-1)) (sv (vn k)) (sv (vi (mk late))) (sv (vi t)) (sv (vn (Ap K))) y el) (g:=g1) (g1:=g1) (l:=fx.map ER) (w:=ER P) rfl rfl rfl (by simp;omega)
   rw [this];simp
  exact Ab (σ1:=Bk w x ps pl (vi (-1)) (sv (vn k)) b d e y el) rfl (AD s1 (AD s2 (AD s3 (AD s4 AG)))) z1
noncomputable abbrev Zt:List PS:=[.assignT [10,11] (.call (.gl 116) [.loc 0,.loc 1,.loc 2]),.assign 9 (.ite (.bop .And [.cmp .Eq (.loc 8) (.bin .Sub (.bin .Mod (.loc 12) (.int 3)) (.int 1)),.cmp .Gt (.loc 12) (.int 2)]) (.int 1) (.int 0)),.expr (.meth (.loc 13) 0 [.tup [.loc 10,.ite (.loc 9) (.gl 10) (.gl 9)]]),.expr (.meth (.loc 6) 0 [.tup [.loc 11,.loc 9]])]
noncomputable def ND (y k:Nat):Bool:=decide ((k:Int)=((y%3:Nat):Int)-1)&&decide (2<y)
theorem OT {n m:Nat} {w:Bool} (hm:m≤1000) {x y:Nat} (fx:List Pl) (hfx:fx.length≤8) {ps:Option VS} (hps:∃ l,ps=some (.own l)):∀ (c k:Nat) (els:List Pl) (a b d e:Option VS) (g:G),k+c≤8→els.length=k→(∀ p∈els,Kd g p.t p.K∧WK w p.K)→(∀ i p,els[i]?=some p→p.late=ND y i)→GK m g→g.scr.length≤100000 →
  ∃ (els':List Pl) (a' b' d' e':Option VS) (g':G),AU (Bv (AA (n+10)) Zt) (.one 8) ((List.range' k c).map vn) (Bk w x ps (some (.own ((fx++els).map ER))) (vi (-1)) a b d e (sv (vn y)) (some (.own (els.map fun p=>.imm (ev p))))) g=some (.next,Bk w x ps (some (.own ((fx++els').map ER))) (vi (-1)) a' b' d' e' (sv (vn y)) (some (.own (els'.map fun p=>.imm (ev p)))),g')∧els'.length=k+c∧(∀ p∈els',Kd g' p.t p.K∧WK w p.K)∧(∀ i p,els'[i]?=some p→p.late=ND y i)∧GK m g'∧C3 g g':=by
 obtain ⟨lp,rfl⟩:=hps
 intro c
 induction c with
 | zero=>intro k els a b d e g hk hl hf hla gk hs;exact ⟨els,a,b,d,e,g,BA,hl,hf,hla,gk,.refl⟩
 | succ c ih =>
  intro k els a b d e g hk hl hf hla gk hs
  refine oEEEAAAA (Kz (n:=n+6) (w:=w) gk hm hs) fun t K g1 q1 q2 q3 q4 q5=>?_
  let late:Bool:=ND y k
  let P:Pl:=⟨pN 0,t,K,late⟩
  refine oEEEEEEAAAAA (ih (k+1) (els++[P]) (sv (vn k)) (sv (vi (mk late))) (sv (vi t)) (sv (vn (Ap K))) g1 (by omega) (by simp [hl]) (fun p hp=>by
   rcases mA hp with hp | hp
   ·exact ⟨(hf p hp).1.ext q2,(hf p hp).2⟩
   ·simp at hp;subst hp;exact ⟨q4,q5⟩) (fun i p hp=>by
   by_cases hi:i<els.length
   ·rw [List.getElem?_append_left hi] at hp;exact hla i p hp
   ·rw [List.getElem?_append_right (by omega)] at hp
    have:i-els.length=0:=by
     have:=(gI hp).1
     simp at this;omega
    rw [this] at hp
    simp at hp
    subst hp
    have:i=k:=by omega
    rw [this]) q3 (by rw [q2.scr];exact hs)) fun els' a' b' d' e' g' z1 z2 z3 zl z4 z5=>?_
  refine ⟨els',a',b',d',e',g',?_,by rw [z2];omega,z3,zl,z4,q2.trans z5⟩
  rw [List.range'_succ,List.map_cons]
  let yv:=some (VS.val (vn y))
  let el:=some (VS.own (els.map fun p=>VV.imm (ev p)))
  let pl:=some (VS.own ((fx++els).map ER))
  let ps:=some (VS.own lp)
  have s1:VX (AA (n+10)) (.assignT [10,11] (.call (.gl 116) [.loc 0,.loc 1,.loc 2])) (Bk w x ps pl (vi (-1)) (sv (vn k)) b d e yv el) g=some (.next,Bk w x ps pl (vi (-1)) (sv (vn k)) b (sv (vi t)) (sv (vn (Ap K))) yv el,g1) :=
   Ce (σ0:=Bk w x ps pl (vi (-1)) (sv (vn k)) b d e yv el) rfl (AH rfl rfl (vs:=[.dd,.tab,Bo w]) rfl q1) rfl
  have s2:VX (AA (n+10)) (.assign 9 (.ite (.bop .And [.cmp .Eq (.loc 8) (.bin .Sub (.bin .Mod (.loc 12) (.int 3)) (.int 1)),.cmp .Gt (.loc 12) (.int 2)]) (.int 1) (.int 0))) (Bk w x ps pl (vi (-1)) (sv (vn k)) b (sv (vi t)) (sv (vn (Ap K))) yv el) g1=some (.next,Bk w x ps pl (vi (-1)) (sv (vn k)) (sv (vi (mk late))) (sv (vi t)) (sv (vn (Ap K))) yv el,g1):=by
   have c1:VT (AA (n+10)) (.cmp .Eq (.loc 8) (.bin .Sub (.bin .Mod (.loc 12) (.int 3)) (.int 1))) (VE (AA (n+10)) (.cmp .Eq (.loc 8) (.bin .Sub (.bin .Mod (.loc 12) (.int 3)) (.int 1)))) (Bk w x ps pl (vi (-1)) (sv (vn k)) b (sv (vi t)) (sv (vn (Ap K))) yv el) g1=some (decide ((k:Int)=((y%3:Nat):Int)-1),g1) :=
    AK (x:=vn k) (y:=vi (((y%3:Nat):Int)-1)) (g1:=g1) (g2:=g1) rfl (Aj (x:=vn (y%3)) (y:=vi 1) (g1:=g1) (g2:=g1) (Aj (x:=vn y) (y:=vi 3) (g1:=g1) (g2:=g1) rfl rfl (CZ (b:=3) (by decide))) rfl rfl) (Ak rfl)
   have c2:VT (AA (n+10)) (.cmp .Gt (.loc 12) (.int 2)) (VE (AA (n+10)) (.cmp .Gt (.loc 12) (.int 2))) (Bk w x ps pl (vi (-1)) (sv (vn k)) b (sv (vi t)) (sv (vn (Ap K))) yv el) g1=some (decide (2<y),g1) :=
    AK (x:=vn y) (y:=vi 2) (g1:=g1) (g2:=g1) rfl rfl (cmp_gt (by rw [decide_eq_decide];omega))
   refine AO (σ0:=Bk w x ps pl (vi (-1)) (sv (vn k)) b (sv (vi t)) (sv (vn (Ap K))) yv el) rfl rfl (A9 (t:=late) (g1:=g1) ?_ ?_)
   ·simp only [late,ND]
    cases hb:decide ((k:Int)=((y%3:Nat):Int)-1) with
    | false=>rw [hb] at c1;exact A6 c1
    | true =>
     rw [hb] at c1
     refine A5 c1 ?_
     rw [Bool.true_and]
     cases hb2:decide (2<y) with
     | false=>rw [hb2] at c2;exact A6 c2
     | true=>rw [hb2] at c2;exact A5 c2 DQ
   ·cases late<;>rfl
  have s3:VX (AA (n+10)) (.expr (.meth (.loc 13) 0 [.tup [.loc 10,.ite (.loc 9) (.gl 10) (.gl 9)]])) (Bk w x ps pl (vi (-1)) (sv (vn k)) (sv (vi (mk late))) (sv (vi t)) (sv (vn (Ap K))) yv el) g1=some (.next,Bk w x ps pl (vi (-1)) (sv (vn k)) (sv (vi (mk late))) (sv (vi t)) (sv (vn (Ap K))) yv (some (.own ((els++[P]).map fun p=>.imm (ev p)))),g1):=by
   have:=Ao (C:=AA (n+10)) (i:=13) (a:=.tup [.loc 10,.ite (.loc 9) (.gl 10) (.gl 9)]) (σ:=Bk w x ps pl (vi (-1)) (sv (vn k)) (sv (vi (mk late))) (sv (vi t)) (sv (vn (Ap K))) yv el) (σ0:=Bk w x ps pl (vi (-1)) (sv (vn k)) (sv (vi (mk late))) (sv (vi t)) (sv (vn (Ap K))) yv el) (g:=g1) (g1:=g1) (l:=els.map fun p=>.imm (ev p)) (w:=.imm (ev P)) rfl
    (CL (vs:=[vi t,vi (mk late)]) (AB (v:=vi t) (g1:=g1) rfl (AB (v:=vi (mk late)) (g1:=g1) (by cases late<;>rfl) AR))) rfl (by simp;omega)
   rw [this];simp
  have s4:VX (AA (n+10)) (.expr (.meth (.loc 6) 0 [.tup [.loc 11,.loc 9]])) (Bk w x ps pl (vi (-1)) (sv (vn k)) (sv (vi (mk late))) (sv (vi t)) (sv (vn (Ap K))) yv (some (.own ((els++[P]).map fun p=>.imm (ev p))))) g1=some (.next,Bk w x ps (some (.own ((fx++(els++[P])).map ER))) (vi (-1)) (sv (vn k)) (sv (vi (mk late))) (sv (vi t)) (sv (vn (Ap K))) yv (some (.own ((els++[P]).map fun p=>.imm (ev p)))),g1):=by
   have:=Ao (C:=AA (n+10)) (i:=6) (a:=.tup [.loc 11,.loc 9]) (σ:=Bk w x ps pl (vi (-1)) (sv (vn k)) (sv (vi (mk late))) (sv (vi t)) (sv (vn (Ap K))) yv (some (.own ((els++[P]).map fun p=>.imm (ev p))))) (σ0:=Bk w x ps pl (vi (-1)) (sv (vn k)) (sv (vi (mk late))) (sv (vi t)) (sv (vn (Ap K))) yv (some (.own ((els++[P]).map fun p=>.imm (ev p))))) (g:=g1) (g1:=g1) (l:=(fx++els).map ER) (w:=ER P) rfl rfl rfl (by simp;omega)
   rw [this,←List.append_assoc];simp
  exact Ab (σ1:=Bk w x ps pl (vi (-1)) (sv (vn k)) b d e yv el) rfl (AD s1 (AD s2 (AD s3 (AD s4 AG)))) z1
noncomputable def rN:Str:=sO "r"
noncomputable def VQ (r:Rest):Int:=match r.tail with
 | none=>-1
 | some K=>Ap K
noncomputable def Oe (fx:List Pl) (rest:Rest):Sg:=⟨fx,rest,rN,0,fun _=>false⟩
noncomputable def A1 (s:Sg):VV:=.tup [.lst (s.pl.map ER),vi (VQ s.rest)]
structure HQ (w:Bool) (g:G) (fx:List Pl) (rest:Rest):Prop where
 hfx:∀ p∈fx,Pe w g p
 hlen:fx.length≤3
 hrest:F9 g rest
 hels:∀ p∈rest.els,WK w p.K
 htail:rest=.any∨∀ K,rest.tail=some K→WK w K
theorem HQ.ext {w:Bool} {g g':G} {fx:List Pl} {rest:Rest} (h:HQ w g fx rest) (e:C3 g g'):HQ w g' fx rest :=
 ⟨fun p hp=>(h.hfx p hp).ext e,h.hlen,h.hrest.ext e,h.hels,h.htail⟩
theorem V4:Ap (fun a=>a==0)=2047:=by decide
theorem DW {C:VC} {w:Bool} {x:Nat} {P L:List VV} {T:VV} {a b d e y el:Option VS} {g:G}:Rt C [.ret (.tup [.loc 5,.tup [.loc 6,.loc 7]])] (Bk w x (some (.own P)) (some (.own L)) T a b d e y el) g (.tup [.lst P,.tup [.lst L,T]]) g :=
 AS (σ0:=Bk w x (sv (.lst P)) (sv (.lst L)) T a b d e y el) rfl rfl
theorem XT {n m:Nat} {w:Bool} {g:G} (gk:GK m g) (hm:m≤900) (hs:g.scr.length≤100000) :
  ∃ fx rest g',AA (n+11) (.fn 58) [.dd,.tab,Bo w] g=some (.tup [.lst ((fx.map pv++(Oe fx rest).restP).map VV.imm),A1 (Oe fx rest)],g')∧C3 g g'∧GK (m+1) g'∧HQ w g' fx rest:=by
 refine oEEAAA (GF (n:=n+9) (g:=g) (k:=72) (by decide) hs) fun x g1 p1 hx e1 er1=>?_
 have gk1:=gk.same er1
 have Rv:g1.scr.length≤100000:=by rw [e1.scr];exact hs
 refine oEEEEEEAAAA (OU (n:=n) (w:=w) (by omega) hx (y:=none) (el:=none) (x%4) 0 [] none none none none g1 (by omega) rfl (fun p hp=>by cases hp) gk1 Rv) fun fx a b d e g2 l1 l2 l3 l4 l5=>?_
 have Yh:g2.scr.length≤100000:=by rw [l5.scr];exact Rv
 have hfl:fx.length≤3:=by omega
 have start:∀ v gz,Rt (AA (n+10)) (D5.body.drop 6) (Bk w x (some (.own (fx.map fun p=>.imm (pv p)))) (some (.own (fx.map ER))) (vi (-1)) a b d e none none) g2 v gz→AA (n+11) (.fn 58) [.dd,.tab,Bo w] g=some (v,gz):=by
  intro v gz hr
  refine AX (σ:=[sv .dd,sv .tab,sv (Bo w),none,none,none,none,none,none,none,none,none,none,none]) rfl rfl (by decide) ?_
  refine AF (AE rfl) DP (AH rfl rfl (vs:=[.dd,vi 72]) rfl p1) ?_
  refine AF (AE rfl) rfl (Aj (x:=vn x) (y:=vi 12) (g1:=g1) (g2:=g1) rfl rfl (Gx (b:=12) (by decide) (by omega) (by decide))) ?_
  refine B5 (AE rfl) rfl ?_
  refine B5 (σ0:=[sv .dd,sv .tab,sv (Bo w),sv (vn x),sv (vn (x / 12)),some (.own []),none,none,none,none,none,none,none,none]) rfl rfl ?_
  refine AF (σ0:=[sv .dd,sv .tab,sv (Bo w),sv (vn x),sv (vn (x / 12)),some (.own []),some (.own []),none,none,none,none,none,none,none]) (w:=vi (-1)) (g1:=g1) rfl rfl rfl ?_
  refine Ai (σ0:=Bk w x (some (.own [])) (some (.own [])) (vi (-1)) none none none none none none) (w:=.imm (.rng 0 ((x%4:Nat):Int))) (g1:=g1) rfl (BH rfl rfl (vs:=[vn (x%4)]) (AB (Aj (x:=vn x) (y:=vi 4) (g1:=g1) (g2:=g1) rfl rfl (CZ (b:=4) (by decide))) AR) rfl) (A2 (by omega)) l1 hr
 have ext2:=e1.trans l5
 have ceq:∀ (k:Nat) (σ:VL) (g:G),σ[4]?=some (sv (vn (x / 12)))→VT (AA (n+10)) (.cmp .Eq (.loc 4) (.int k)) (VE (AA (n+10)) (.cmp .Eq (.loc 4) (.int k))) σ g=some (decide (x / 12=k),g):=fun k σ g h4 =>
  AK (x:=vn (x / 12)) (y:=vn k) (g1:=g) (g2:=g) (Kf h4) rfl (Ak (by rw [decide_eq_decide];omega))
 have cgt:∀ (σ:VL) (g:G),σ[4]?=some (sv (vn (x / 12)))→VT (AA (n+10)) (.cmp .Gt (.loc 4) (.int 3)) (VE (AA (n+10)) (.cmp .Gt (.loc 4) (.int 3))) σ g=some (decide (3<x / 12),g):=fun σ g h4 =>
  AK (x:=vn (x / 12)) (y:=vi 3) (g1:=g) (g2:=g) (Kf h4) rfl (cmp_gt (by rw [decide_eq_decide];omega))
 let σL:VL:=Bk w x (some (.own (fx.map fun p=>.imm (pv p)))) (some (.own (fx.map ER))) (vi (-1)) a b d e none none
 have mapPv:(fx.map fun p=>VV.imm (pv p))=(fx.map pv).map VV.imm:=by rw [List.map_map];rfl
 by_cases h2:x / 12=2
 ·refine oEEEAAAA (Kz (n:=n+6) (w:=w) l4 (by omega) Yh) fun t K g3 q1 q2 q3 q4 q5=>?_
  refine oEEAAA (G3 (n:=n+8) (t:=t) (ro:=((x%2:Nat):Int)) q3 (by omega)) fun j g4 r1 r2 r3 r4=>?_
  have ex:=(ext2.trans q2).trans r3
  refine ⟨fx,.arr j ((x%2:Nat):Int) t K,g4,start _ _ ?_,ex,r4,⟨fun p hp=>(l3 p hp).ext (q2.trans r3),hfl,⟨fun rt ro t' K' h=>by cases h;exact ⟨r2,q4.ext r3⟩,fun rt els tl h=>by cases h⟩,fun p hp=>by (cases hp),.inr fun K' h=>by cases h;exact q5⟩⟩
  have et:VQ (.arr j ((x%2:Nat):Int) t K)=Ap K:=rfl
  have ep:(Oe fx (.arr j ((x%2:Nat):Int) t K)).pl=fx:=by simp [Oe,Sg.pl,Rest.els]
  have er:(Oe fx (.arr j ((x%2:Nat):Int) t K)).restP=[.tup [.str rN,.int j,.int 2]]:=rfl
  unfold A1
  have et':VQ (Oe fx (.arr j ((x%2:Nat):Int) t K)).rest=Ap K:=rfl
  rw [ep,er,et']
  refine Av (σ1:=Bk w x (some (.own ((fx.map pv++[PV.tup [.str rN,.int j,.int 2]]).map VV.imm))) (some (.own (fx.map ER))) (vn (Ap K)) a b (sv (vi t)) e none none) (g1:=g4) ?_ DW
  refine Ag (σ0:=σL) (b:=true) rfl ((ceq 2 _ g2 rfl).trans (by rw [decide_eq_true h2])) ?_
  refine AD (σ1:=Bk w x (some (.own (fx.map fun p=>.imm (pv p)))) (some (.own (fx.map ER))) (vn (Ap K)) a b (sv (vi t)) e none none) (g1:=g3) (Ce (σ0:=σL) rfl (AH rfl rfl (vs:=[.dd,.tab,Bo w]) rfl q1) rfl) ?_
  refine AD (σ1:=Bk w x (some (.own ((fx.map pv++[PV.tup [.str rN,.int j,.int 2]]).map VV.imm))) (some (.own (fx.map ER))) (vn (Ap K)) a b (sv (vi t)) e none none) (g1:=g4) ?_ AG
  have:=Ao (C:=AA (n+10)) (i:=5) (a:=.tup [.str (sO "r"),.call (.gl 17) [.loc 1,.loc 10,.bin .Mod (.loc 3) (.int 2)],.gl 83]) (σ:=Bk w x (some (.own (fx.map fun p=>.imm (pv p)))) (some (.own (fx.map ER))) (vn (Ap K)) a b (sv (vi t)) e none none) (σ0:=Bk w x (some (.own (fx.map fun p=>.imm (pv p)))) (some (.own (fx.map ER))) (vn (Ap K)) a b (sv (vi t)) e none none) (g:=g3) (g1:=g4) (l:=fx.map fun p=>.imm (pv p)) (w:=.imm (.tup [.str rN,.int j,.int 2])) rfl
   (CL (vs:=[.imm (.str rN),vn j,vi 2]) (AB (v:=.imm (.str rN)) (g1:=g3) rfl (AB (AH rfl rfl (vs:=[.tab,vi t,vn (x%2)]) (AB (v:=.tab) (g1:=g3) rfl (AB (v:=vi t) (g1:=g3) rfl (AB (Aj (x:=vn x) (y:=vi 2) (g1:=g3) (g2:=g3) rfl rfl (CZ (b:=2) (by decide))) AR))) r1) (AB rfl AR)))) rfl (by simp;omega)
  rw [this,mapPv];simp
 ·by_cases h3:x / 12=3
  ·refine ⟨fx,.any,g2,start _ _ ?_,ext2,l4.up (by omega),⟨l3,hfl,⟨fun rt ro t' K' h=>by (cases h),fun rt els tl h=>by (cases h)⟩,fun p hp=>by (cases hp),.inl rfl⟩⟩
   have ep:(Oe fx .any).pl=fx:=by simp [Oe,Sg.pl,Rest.els]
   have er:(Oe fx .any).restP=[.tup [.str rN,.int ((0:Nat):Int),.int 2]]:=rfl
   have et':VQ (Oe fx .any).rest=2047:=by show ((Ap fun a=>a==0:Nat):Int)=2047;rw [V4];rfl
   unfold A1
   rw [ep,er,et']
   refine Av (σ1:=Bk w x (some (.own ((fx.map pv++[PV.tup [.str rN,.int ((0:Nat):Int),.int 2]]).map VV.imm))) (some (.own (fx.map ER))) (vi 2047) a b d e none none) (g1:=g2) ?_ DW
   refine Ag (σ0:=σL) (b:=false) rfl ((ceq 2 _ g2 rfl).trans (by rw [decide_eq_false h2])) ?_
   refine AD (Ag (σ0:=σL) (b:=true) rfl ((ceq 3 _ g2 rfl).trans (by rw [decide_eq_true h3])) ?_) AG
   refine AD (σ1:=Bk w x (some (.own (fx.map fun p=>.imm (pv p)))) (some (.own (fx.map ER))) (vi 2047) a b d e none none) (g1:=g2) (AO (σ0:=σL) (w:=vi 2047) (g1:=g2) rfl rfl rfl) ?_
   refine AD (σ1:=Bk w x (some (.own ((fx.map pv++[PV.tup [.str rN,.int ((0:Nat):Int),.int 2]]).map VV.imm))) (some (.own (fx.map ER))) (vi 2047) a b d e none none) (g1:=g2) ?_ AG
   have:=Ao (C:=AA (n+10)) (i:=5) (a:=.tup [.str (sO "r"),.gl 35,.gl 83]) (σ:=Bk w x (some (.own (fx.map fun p=>.imm (pv p)))) (some (.own (fx.map ER))) (vi 2047) a b d e none none) (σ0:=Bk w x (some (.own (fx.map fun p=>.imm (pv p)))) (some (.own (fx.map ER))) (vi 2047) a b d e none none) (g:=g2) (g1:=g2) (l:=fx.map fun p=>.imm (pv p)) (w:=.imm (.tup [.str rN,.int ((0:Nat):Int),.int 2])) rfl (by rfl) rfl (by simp;omega)
   rw [this,mapPv];simp
  ·by_cases h4:3<x / 12
   ·refine oEEAAA (GF (n:=n+9) (g:=g2) (k:=6) (by decide) Yh) fun y g3 y1 hy y3 y4=>?_
    have gk3:=l4.same y4
    have W3:g3.scr.length≤100000:=by rw [y3.scr];exact Yh
    refine oEEEEEEAAAAA (OT (n:=n) (w:=w) (x:=x) (y:=y) (by omega) fx (by omega) (ps:=some (.own (fx.map fun p=>.imm (pv p)))) ⟨_,rfl⟩ (y%3) 0 [] a b d e g3 (by omega) rfl (fun p hp=>by cases hp) (fun i p hp=>by simp at hp) gk3 W3) fun els a' b' d' e' g4 z1 z2 z3 z4 z5 z6=>?_
    rw [List.append_nil] at z1
    have hs4:g4.scr.length≤100000:=by rw [z6.scr];exact W3
    have hel:els.length≤2:=by omega
    have hla:∀ p,els[0]?=some p→els.length=2→p.late=false:=fun p hp hl=>by
     rw [z4 0 p hp]
     unfold ND
     rw [decide_eq_false (by omega)];rfl
    have ext4:=(ext2.trans y3).trans z6
    have mapEv:(els.map fun p=>VV.imm (ev p))=(els.map ev).map VV.imm:=by rw [List.map_map];rfl
    let σE:VL:=Bk w x (some (.own (fx.map fun p=>.imm (pv p)))) (some (.own ((fx++els).map ER))) (vi (-1)) a' b' d' e' (sv (vn y)) (some (.own (els.map fun p=>.imm (ev p))))
    have pre:∀ v gz,(∃ σ',Bv (AA (n+10)) [.ite (.cmp .Eq (.loc 4) (.int 5)) [.assignT [10,7] (.call (.gl 116) [.loc 0,.loc 1,.loc 2]),.expr (.meth (.loc 13) 0 [.tup [.loc 10,.gl 12]])] [],.expr (.meth (.loc 5) 0 [.tup [.str (sO "r"),.call (.gl 117) [.loc 1,.loc 13,.int 0],.gl 83]])] σE g4=some (.next,σ',gz)∧Rt (AA (n+10)) [.ret (.tup [.loc 5,.tup [.loc 6,.loc 7]])] σ' gz v gz)→AA (n+11) (.fn 58) [.dd,.tab,Bo w] g=some (v,gz):=by
     refine fun v gz z0=>oEA z0 fun σ' hv hr=>?_
     refine start _ _ (Av (σ1:=σ') (g1:=gz) ?_ hr)
     refine Ag (σ0:=σL) (b:=false) rfl ((ceq 2 _ g2 rfl).trans (by rw [decide_eq_false h2])) ?_
     refine AD (Ag (σ0:=σL) (b:=false) rfl ((ceq 3 _ g2 rfl).trans (by rw [decide_eq_false h3])) ?_) AG
     refine AD (Ag (σ0:=σL) (b:=true) rfl ((cgt _ g2 rfl).trans (by rw [decide_eq_true h4])) ?_) AG
     let σy:VL:=Bk w x (some (.own (fx.map fun p=>.imm (pv p)))) (some (.own (fx.map ER))) (vi (-1)) a b d e (sv (vn y)) none
     refine AD (σ1:=σy) (g1:=g3) (AO (σ0:=σL) rfl rfl (AH rfl rfl (vs:=[.dd,vi 6]) rfl y1)) ?_
     refine AD (σ1:=Bk w x (some (.own (fx.map fun p=>.imm (pv p)))) (some (.own (fx.map ER))) (vi (-1)) a b d e (sv (vn y)) (some (.own []))) (g1:=g3) (Ry (σ0:=σy) rfl rfl) ?_
     refine AD (σ1:=σE) (g1:=g4) ?_ hv
     have hi:=A2 (n:=y%3) (by omega)
     have he:VE (AA (n+10)) (.call (.gl 7) [.bin .Mod (.loc 12) (.int 3)]) (Bk w x (some (.own (fx.map fun p=>.imm (pv p)))) (some (.own (fx.map ER))) (vi (-1)) a b d e (sv (vn y)) (some (.own []))) g3=some (.imm (.rng 0 ((y%3:Nat):Int)),g3):=BH rfl rfl (vs:=[vn (y%3)]) (AB (Aj (x:=vn y) (y:=vi 3) (g1:=g3) (g2:=g3) rfl rfl (CZ (b:=3) (by decide))) AR) rfl
     exact U2 rfl he hi z1
    have fin:∀ (j:Nat) (T:VV) (L:List VV) (dd ee:Option VS) (ga gb:G),AA (n+10) (.fn 10) [.tab,.lst L,vi 0] ga=some (vn j,gb)→VX (AA (n+10)) (.expr (.meth (.loc 5) 0 [.tup [.str (sO "r"),.call (.gl 117) [.loc 1,.loc 13,.int 0],.gl 83]])) (Bk w x (some (.own (fx.map fun p=>.imm (pv p)))) (some (.own ((fx++els).map ER))) T a' b' dd ee (sv (vn y)) (some (.own L))) ga=some (.next,Bk w x (some (.own ((fx.map pv++[PV.tup [.str rN,.int j,.int 2]]).map VV.imm))) (some (.own ((fx++els).map ER))) T a' b' dd ee (sv (vn y)) (sv (.lst L)),gb):=by
     intro j T L dd ee ga gb hc
     have:=Ao (C:=AA (n+10)) (i:=5) (a:=.tup [.str (sO "r"),.call (.gl 117) [.loc 1,.loc 13,.int 0],.gl 83]) (σ:=Bk w x (some (.own (fx.map fun p=>.imm (pv p)))) (some (.own ((fx++els).map ER))) T a' b' dd ee (sv (vn y)) (some (.own L))) (σ0:=Bk w x (some (.own (fx.map fun p=>.imm (pv p)))) (some (.own ((fx++els).map ER))) T a' b' dd ee (sv (vn y)) (sv (.lst L))) (g:=ga) (g1:=gb) (l:=fx.map fun p=>.imm (pv p)) (w:=.imm (.tup [.str rN,.int j,.int 2])) rfl
      (CL (vs:=[.imm (.str rN),vn j,vi 2]) (AB (v:=.imm (.str rN)) (g1:=ga) rfl (AB (AH rfl rfl (vs:=[.tab,.lst L,vi 0]) rfl hc) (AB rfl AR)))) rfl (by simp;omega)
     rw [this,mapPv];simp
    by_cases h5:x / 12=5
    ·refine oEEEAAAA (Kz (n:=n+6) (w:=w) z5 (by omega) hs4) fun t K g5 q1 q2 q3 q4 q5=>?_
     have ext5:=ext4.trans q2
     let σK:VL:=Bk w x (some (.own (fx.map fun p=>.imm (pv p)))) (some (.own ((fx++els).map ER))) (vn (Ap K)) a' b' (sv (vi t)) e' (sv (vn y)) (some (.own ((els.map fun p=>.imm (ev p))++[.imm (.tup [.int t,.int 2])])))
     have ite5:VX (AA (n+10)) (.ite (.cmp .Eq (.loc 4) (.int 5)) [.assignT [10,7] (.call (.gl 116) [.loc 0,.loc 1,.loc 2]),.expr (.meth (.loc 13) 0 [.tup [.loc 10,.gl 12]])] []) σE g4=some (.next,σK,g5):=by
      refine Ag (σ0:=σE) (b:=true) rfl ((ceq 5 _ g4 rfl).trans (by rw [decide_eq_true h5])) ?_
      refine AD (σ1:=Bk w x (some (.own (fx.map fun p=>.imm (pv p)))) (some (.own ((fx++els).map ER))) (vn (Ap K)) a' b' (sv (vi t)) e' (sv (vn y)) (some (.own (els.map fun p=>.imm (ev p))))) (g1:=g5) (Ce (σ0:=σE) rfl (AH rfl rfl (vs:=[.dd,.tab,Bo w]) rfl q1) rfl) (AD ?_ AG)
      exact Ao (C:=AA (n+10)) (i:=13) (a:=.tup [.loc 10,.gl 12]) (σ0:=Bk w x (some (.own (fx.map fun p=>.imm (pv p)))) (some (.own ((fx++els).map ER))) (vn (Ap K)) a' b' (sv (vi t)) e' (sv (vn y)) (some (.own (els.map fun p=>.imm (ev p))))) (g:=g5) (g1:=g5) (l:=els.map fun p=>.imm (ev p)) (w:=.imm (.tup [.int t,.int 2])) rfl (by rfl) rfl (by simp;omega)
     cases els with
     | nil =>
      refine oEEAAA (R8 (n:=n) (t:=t) q3 (by omega)) fun j g6 r1 r2 r3 r4=>?_
      refine ⟨fx,.arr j 0 t K,g6,pre _ _ ⟨_,AD ite5 (AD (fin j _ _ _ _ g5 g6 r1) AG),?_⟩,ext5.trans r3,r4,⟨fun p hp=>(l3 p hp).ext (((y3.trans z6).trans q2).trans r3),hfl,⟨fun rt ro t' K' h=>by cases h;exact ⟨r2,q4.ext r3⟩,fun rt els tl h=>by cases h⟩,fun p hp=>by (cases hp),.inr fun K' h=>by cases h;exact q5⟩⟩
      have ep:(Oe fx (.arr j 0 t K)).pl=fx++[]:=rfl
      unfold A1
      rw [ep]
      exact DW
     | cons p0 els0 =>
      refine oEEAAA (J6 (n:=n) (els:=p0::els0) (tl:=some (t,K)) q3 (by omega) hel hla (.inl (by simp))) fun j g6 r1 r2 r3 r4=>?_
      have r1':AA (n+10) (.fn 10) [.tab,.lst (((p0::els0).map fun p=>.imm (ev p))++[.imm (.tup [.int t,.int 2])]),vi 0] g5=some (vn j,g6):=by
       rw [mapEv,show [VV.imm (.tup [.int t,.int 2])]=(SW (some (t,K))).map VV.imm from rfl,←List.map_append];exact r1
      refine ⟨fx,.tup j (p0::els0) (some (t,K)),g6,pre _ _ ⟨_,AD ite5 (AD (fin j _ _ _ _ g5 g6 r1') AG),?_⟩,ext5.trans r3,r4,⟨fun p hp=>(l3 p hp).ext (((y3.trans z6).trans q2).trans r3),hfl,⟨fun rt ro t' K' h=>by (cases h),fun rt els' tl' h=>by cases h;exact ⟨r2,fun p hp=>((z3 p hp).1.ext q2).ext r3,fun t' K' h'=>by cases h';exact q4.ext r3,hel,hla⟩⟩,fun p hp=>(z3 p hp).2,.inr fun K' h=>by cases h;exact q5⟩⟩
      exact DW
    ·have ite5:VX (AA (n+10)) (.ite (.cmp .Eq (.loc 4) (.int 5)) [.assignT [10,7] (.call (.gl 116) [.loc 0,.loc 1,.loc 2]),.expr (.meth (.loc 13) 0 [.tup [.loc 10,.gl 12]])] []) σE g4=some (.next,σE,g4) :=
      Ag (σ0:=σE) (b:=false) rfl ((ceq 5 _ g4 rfl).trans (by rw [decide_eq_false h5])) AG
     refine oEEAAA (J6 (n:=n) (els:=els) (tl:=none) z5 (by omega) hel hla (.inr rfl)) fun j g6 r1 r2 r3 r4=>?_
     have r1':AA (n+10) (.fn 10) [.tab,.lst (els.map fun p=>.imm (ev p)),vi 0] g4=some (vn j,g6):=by
      rw [mapEv]
      have:els.map ev++SW none=els.map ev:=List.append_nil _
      rw [this] at r1;exact r1
     refine ⟨fx,.tup j els none,g6,pre _ _ ⟨_,AD ite5 (AD (fin j _ _ _ _ g4 g6 r1') AG),?_⟩,ext4.trans r3,r4,⟨fun p hp=>(l3 p hp).ext ((y3.trans z6).trans r3),hfl,⟨fun rt ro t' K' h=>by (cases h),fun rt els' tl' h=>by cases h;exact ⟨r2,fun p hp=>(z3 p hp).1.ext r3,fun t' K' h'=>by (exact nO h'),hel,hla⟩⟩,fun p hp=>(z3 p hp).2,.inr fun K' h=>by cases h⟩⟩
     exact DW
   ·refine ⟨fx,.no,g2,start _ _ ?_,ext2,l4.up (by omega),⟨l3,hfl,⟨fun rt ro t' K' h=>by (cases h),fun rt els tl h=>by (cases h)⟩,fun p hp=>by (cases hp),.inr fun K' h=>by cases h⟩⟩
    have ep:(Oe fx .no).pl=fx:=by simp [Oe,Sg.pl,Rest.els]
    have er:fx.map pv++(Oe fx .no).restP=fx.map pv:=List.append_nil _
    have et':VQ (Oe fx .no).rest=-1:=rfl
    unfold A1
    rw [ep,er,et']
    refine Av (σ1:=σL) (g1:=g2) ?_ (by rw [←mapPv];exact DW)
    refine Ag (σ0:=σL) (b:=false) rfl ((ceq 2 _ g2 rfl).trans (by rw [decide_eq_false h2])) ?_
    refine AD (Ag (σ0:=σL) (b:=false) rfl ((ceq 3 _ g2 rfl).trans (by rw [decide_eq_false h3])) ?_) AG
    exact AD (Ag (σ0:=σL) (b:=false) rfl ((cgt _ g2 rfl).trans (by rw [decide_eq_false h4])) AG) AG
structure Dt where
 pl:List (Nat×Bool)
 tail:Int
noncomputable def dE (p:Nat×Bool):VV:=.imm (.tup [.int p.1,.int (mk p.2)])
noncomputable def DV (d:Dt):VV:=.tup [.lst (d.pl.map dE),vi d.tail]
noncomputable def EL (d:Dt) (i:Nat):Int:=match d.pl[i]? with
 | some p=>((p.1|||(if p.2 then 1 else 0):Nat):Int)
 | none=>d.tail
noncomputable def BK (a:Int):Bool:=decide (a.toNat&&&1536=512)
noncomputable def DS (d:Dt):Nat→Nat
 | 0=>0
 | k+1=>if BK (EL d k) then DS d k else k+1
noncomputable def BY (d:Dt):Nat:=DS d (Aw (d.pl.map (·.2)))
theorem XW {n:Nat} {g:G} {d:Dt} (hl:d.pl.length≤1000) (i:Nat):AA (n+1) (.fn 59) [DV d,vn i] g=some (vi (EL d i),g):=by
 let σ1:VL:=[sv (DV d),sv (vn i),sv (.lst (d.pl.map dE)),sv (vi d.tail)]
 refine AX (σ:=[sv (DV d),sv (vn i),none,none]) rfl rfl (by decide) (Dl (σ1:=σ1) (AE rfl) (w:=DV d) (g1:=g) rfl rfl ?_)
 have hlen:L7 .len [.lst (d.pl.map dE)]=some (vn d.pl.length):=(HM (by simp;omega)).trans (by rw [List.length_map])
 have ec:∀ z,decide (i<d.pl.length)=z→VT (AA n) (.cmp .Lt (.loc 1) (.call (.gl 1) [.loc 2])) (VE (AA n) (.cmp .Lt (.loc 1) (.call (.gl 1) [.loc 2]))) σ1 g=some (z,g):=fun z hz =>
  AK (x:=vn i) (y:=vn d.pl.length) (g1:=g) (g2:=g) rfl (BH rfl rfl (vs:=[.lst (d.pl.map dE)]) rfl hlen) (Fy (by rw [←hz,decide_eq_decide];omega))
 unfold EL
 cases hp:d.pl[i]? with
 | some p =>
  have hi:=(gI hp).1
  have it:VE (AA n) (.sub (.loc 2) (.loc 1)) σ1 g=some (dE p,g):=Af rfl (w:=.lst (d.pl.map dE)) (g1:=g) (k:=vn i) rfl rfl (E5 (by simp;omega) (by rw [List.getElem?_map,hp];rfl))
  refine Cm (σ0:=σ1) (AE rfl) (ec true (decide_eq_true hi)) (AS (σ0:=σ1) (AE rfl) (Aj (x:=vn p.1) (y:=vi (mk p.2)) (g1:=g) (g2:=g) (Af rfl (w:=dE p) (g1:=g) (k:=vi 0) it rfl rfl) (Af rfl (w:=dE p) (g1:=g) (k:=vi 1) it rfl rfl) ?_))
  have:mk p.2=((if p.2 then 1 else 0:Nat):Int):=by cases p.2<;>rfl
  rw [this]
  exact Uf _ _
 | none =>
  have hi:=List.getElem?_eq_none_iff.mp hp
  exact As (σ0:=σ1) (AE rfl) (ec false (decide_eq_false (by omega))) (AS (σ0:=σ1) (AE rfl) rfl)
theorem JE (l:List Bool) (b:Bool):Aw (l++[b])=if b then Aw l else l.length+1:=by
 induction l with
 | nil=>cases b<;>rfl
 | cons a l ih =>
  simp only [List.cons_append,Aw,ih]
  cases b with
  | true=>simp
  | false=>simp
theorem RJ {n:Nat} {g:G} {d:Dt} (hl:d.pl.length≤60):∀ (c k:Nat) (y:Option VS),k+c=d.pl.length→NO [y]=true →
  ∃ y',NO [y']=true∧AU (Bv (AA n) [.ite (.cmp .Eq (.sub (.sub (.sub (.loc 0) (.int 0)) (.loc 2)) (.int 1)) (.int 0)) [.assign 1 (.bin .Add (.loc 2) (.int 1))] []]) (.one 2) ((List.range' k c).map vn) [sv (DV d),sv (vn (Aw ((d.pl.take k).map (·.2)))),y] g=some (.next,[sv (DV d),sv (vn (Aw (d.pl.map (·.2)))),y'],g):=by
 intro c
 induction c with
 | zero =>
  intro k y hk hy
  refine ⟨y,hy,?_⟩
  rw [List.take_of_length_le (by omega)]
  exact BA
 | succ c ih =>
  intro k y hk hy
  refine oEA (ih (k+1) (sv (vn k)) (by omega) rfl) fun y' hy' q=>?_
  have hp:d.pl[k]?=some (d.pl[k]'(by omega)):=List.getElem?_eq_getElem (by omega)
  generalize (d.pl[k]'(by omega))=p at hp
  have tk:(d.pl.take (k+1)).map (·.2)=(d.pl.take k).map (·.2)++[p.2]:=by rw [List.take_add_one,hp];simp
  rw [tk,JE] at q
  have hkl:((d.pl.take k).map (·.2)).length=k:=by simp;omega
  rw [hkl] at q
  refine ⟨y',hy',?_⟩
  rw [List.range'_succ,List.map_cons]
  let σ1:VL:=[sv (DV d),sv (vn (Aw ((d.pl.take k).map (·.2)))),sv (vn k)]
  have it:VE (AA n) (.sub (.sub (.sub (.loc 0) (.int 0)) (.loc 2)) (.int 1)) σ1 g=some (vi (mk p.2),g) :=
   Af rfl (w:=dE p) (g1:=g) (k:=vi 1) (Af rfl (w:=.lst (d.pl.map dE)) (g1:=g) (k:=vn k) (by rfl) rfl (E5 (by simp;omega) (by rw [List.getElem?_map,hp];rfl))) rfl rfl
  refine Ab (σ1:=σ1) (σ2:=[sv (DV d),sv (vn (if p.2 then Aw ((d.pl.take k).map (·.2)) else k+1)),sv (vn k)]) (g2:=g) rfl (AD ?_ AG) q
  cases hb:p.2 with
  | true =>
   rw [hb] at it
   exact Ag (σ0:=σ1) (b:=false) (AE rfl) (AK (x:=vi 1) (y:=vi 0) it rfl rfl) AG
  | false =>
   rw [hb] at it
   exact Ag (σ0:=σ1) (b:=true) (AE rfl) (AK (x:=vi 0) (y:=vi 0) it rfl rfl) (AD (AO (σ0:=σ1) (w:=vn (k+1)) (g1:=g) (AE rfl) rfl rfl) AG)
noncomputable abbrev UK:PE:=.bop .And [.cmp .Gt (.loc 1) (.int 0),.cmp .Eq (.bin .BitAnd (.call (.gl 118) [.loc 0,.bin .Sub (.loc 1) (.int 1)]) (.int 1536)) (.int 512)]
theorem WM {d:Dt} {k:Nat} (hk:k<d.pl.length):∃ a:Nat,EL d k=a:=by
 unfold EL
 rw [List.getElem?_eq_getElem hk]
 exact ⟨_,rfl⟩
theorem PJ {n:Nat} {g:G} {d:Dt} (hl:d.pl.length≤60) {y:Option VS} (hy:NO [y]=true):∀ (w k:Nat),w<k→w≤d.pl.length →
  CO (VT (AA (n+1)) UK (VE (AA (n+1)) UK)) (locs UK) (Bv (AA (n+1)) [.aug 1 .Sub (.int 1)]) k [sv (DV d),sv (vn w),y] g=some (.next,[sv (DV d),sv (vn (DS d w)),y],g):=by
 have no:∀ w,NO [sv (DV d),sv (vn w),y]=true:=fun _=>hy
 intro w
 induction w with
 | zero =>
  intro k hk hw
  obtain ⟨k,rfl⟩:∃ j,k=j+1:=⟨k-1,by omega⟩
  simp only [CO]
  rw [AE (no 0),A6 (g1:=g) (AK (x:=vn 0) (y:=vi 0) rfl rfl rfl)]
  rfl
 | succ w ih =>
  intro k hk hw
  obtain ⟨k,rfl⟩:∃ j,k=j+1:=⟨k-1,by omega⟩
  have e1:VT (AA (n+1)) (.cmp .Gt (.loc 1) (.int 0)) (VE (AA (n+1)) (.cmp .Gt (.loc 1) (.int 0))) [sv (DV d),sv (vn (w+1)),y] g=some (true,g):=AK (x:=vn (w+1)) (y:=vi 0) rfl rfl (cmp_gt (decide_eq_true (by omega)))
  refine oE (WM (d:=d) (k:=w) (by omega)) fun a ha=>?_
  have hv:BK (EL d w)=decide (a&&&1536=512):=by rw [ha];rfl
  have e2:VT (AA (n+1)) (.cmp .Eq (.bin .BitAnd (.call (.gl 118) [.loc 0,.bin .Sub (.loc 1) (.int 1)]) (.int 1536)) (.int 512)) (VE (AA (n+1)) (.cmp .Eq (.bin .BitAnd (.call (.gl 118) [.loc 0,.bin .Sub (.loc 1) (.int 1)]) (.int 1536)) (.int 512))) [sv (DV d),sv (vn (w+1)),y] g=some (BK (EL d w),g):=by
   rw [hv]
   refine AK (x:=vn (a&&&1536)) (y:=vi 512) (g1:=g) (g2:=g) (Aj (x:=vn a) (y:=vn 1536) (g1:=g) (g2:=g) ?_ rfl (QZ _ _)) rfl (Ak (by rw [decide_eq_decide];omega))
   have:=XW (n:=n) (g:=g) (d:=d) (by omega) w
   rw [ha] at this
   exact AH rfl rfl (vs:=[DV d,vn w]) (AB (v:=DV d) (g1:=g) rfl (AB (Aj (x:=vn (w+1)) (y:=vi 1) (g1:=g) (g2:=g) rfl rfl (Lz (a:=w+1) (b:=1) (by omega))) AR)) this
  have e3:VT (AA (n+1)) (.bop .And [.cmp .Eq (.bin .BitAnd (.call (.gl 118) [.loc 0,.bin .Sub (.loc 1) (.int 1)]) (.int 1536)) (.int 512)]) (VE (AA (n+1)) (.bop .And [.cmp .Eq (.bin .BitAnd (.call (.gl 118) [.loc 0,.bin .Sub (.loc 1) (.int 1)]) (.int 1536)) (.int 512)])) [sv (DV d),sv (vn (w+1)),y] g=some (BK (EL d w),g):=by
   cases hz:BK (EL d w) with
   | false=>rw [hz] at e2;exact A6 e2
   | true=>rw [hz] at e2;exact A5 e2 DQ
  simp only [CO]
  rw [AE (no (w+1)),A5 e1 e3,Option.bind_some]
  simp only [DS]
  cases hz:BK (EL d w) with
  | false=>simp
  | true =>
   have ex:Bv (AA (n+1)) [.aug 1 .Sub (.int 1)] [sv (DV d),sv (vn (w+1)),y] g=some (.next,[sv (DV d),sv (vn w),y],g):=by
    refine AD (σ1:=[sv (DV d),sv (vi (((w+1:Nat):Int)-1)),y]) (g1:=g) ?_ ?_
    ·exact Pi (AE (no (w+1))) rfl rfl rfl
    ·rw [show ((w+1:Nat):Int)-1=w by omega];exact AG
   simp only [if_true]
   rw [ex,Option.bind_some]
   exact ih k (by omega) (by omega)
theorem Pm {n:Nat} {g:G} {d:Dt} (hl:d.pl.length≤60):AA (n+2) (.fn 60) [DV d] g=some (vn (BY d),g):=by
 have hlast:=Gg (d.pl.map (·.2))
 rw [List.length_map] at hlast
 refine oEA (RJ (n:=n+1) (g:=g) (d:=d) hl d.pl.length 0 none (by omega) rfl) fun y yno q=>?_
 have hlen:L7 .len [.lst (d.pl.map dE)]=some (vn d.pl.length):=(HM (by simp;omega)).trans (by rw [List.length_map])
 refine AX (σ:=[sv (DV d),none,none]) rfl rfl (by decide) (AF (AE rfl) rfl (w:=vi 0) (g1:=g) rfl ?_)
 refine Ai (σ0:=[sv (DV d),sv (vn 0),none]) (w:=.imm (.rng 0 d.pl.length)) (g1:=g) (AE rfl) (BH rfl rfl (vs:=[vn d.pl.length]) (AB (BH rfl rfl (vs:=[.lst (d.pl.map dE)]) (by rfl) hlen) AR) rfl) (A2 (by omega)) q ?_
 refine Av (σ1:=[sv (DV d),sv (vn (BY d)),y]) (g1:=g) ?_ (AS (σ0:=[sv (DV d),sv (vn (BY d)),y]) rfl rfl)
 exact PJ (n:=n) hl yno _ 64 (by omega) hlast
noncomputable def AZ (w:Bool):List (Int×Int):=[(8,128),(0,2047),(6,28),(16,4),(7,96),(4,1),(17,8),(18,32),(9,256),(5,2),(2,0)]++if w then [(3,513)] else [(1,2047)]
noncomputable def SK (w:Bool) (K:Kn):Prop:=if w=true then K 1=false else K 3=false
theorem WK.sk {w:Bool} {K:Kn} (h:WK w K):SK w K:=by
 unfold WK at h;unfold SK
 cases w with
 | true=>exact h.2
 | false=>exact h
theorem SK.congr {w:Bool} {K L:Kn} (h:SK w K) (e:∀ a∈AI,K a=L a):SK w L:=by
 unfold SK at h ⊢
 rw [←e 1 (by decide),←e 3 (by decide)];exact h
theorem Sy (w:Bool):∀ a∈AI,(w=true→a≠1)→(w=false→a≠3)→∀ d,NL (AZ w) a d=vn (ma a):=by
 simp only [AI,List.forall_mem_cons,List.not_mem_nil,false_implies,implies_true,and_true]
 cases w
 ·refine ⟨?_,?_,?_,?_,?_,?_,?_,?_,?_,?_,?_,?_⟩<;>intro _ h d<;>first | exact absurd rfl (h rfl) | rfl
 ·refine ⟨?_,?_,?_,?_,?_,?_,?_,?_,?_,?_,?_,?_⟩<;>intro h _ d<;>first | exact absurd rfl (h rfl) | rfl
noncomputable abbrev Tj:List PS:=[.aug 4 .BitOr (.meth (.loc 1) 1 [.loc 5,.int 4096])]
noncomputable abbrev Gc (w:Bool) (t:Int) (row:PV) (acc:Nat) (y:Option VV):VL:=[sv .tab,sv (.dct (AZ w)),sv (vi t),sv (.imm row),sv (vn acc),y.map VS.val]
theorem KV {C:VC} {w:Bool} {t:Int} {row:PV} {acc b:Nat} {a:Int} {g:G} (h:∀ d,NL (AZ w) a d=vn b):Bv C Tj (Gc w t row acc (some (vi a))) g=some (.next,Gc w t row (acc|||b) (some (vi a)),g):=by
 refine AD (σ1:=Gc w t row (acc|||b) (some (vi a))) (g1:=g) ?_ AG
 have he:VE C (.meth (.loc 1) 1 [.loc 5,.int 4096]) (Gc w t row acc (some (vi a))) g=some (vn b,g) :=
  Fv (b:=.dct (AZ w)) (g1:=g) (vs:=[vi a,vi 4096]) rfl rfl (by show some (NL (AZ w) a (vi 4096),g)=_;rw [h])
 exact Pi (AE (by rfl)) rfl he (YI acc b)
theorem HB {C:VC} {w:Bool} {t:Int} {row:PV} {g:G}:∀ (S:List Int) (acc:Nat) (y:Option VV),(∀ a∈S,a∈AI∧(w=true→a≠1)∧(w=false→a≠3)) →
  ∃ y',AU (Bv C Tj) (.one 5) (S.map vi) (Gc w t row acc y) g=some (.next,Gc w t row (acc|||RE (S.map ma)) y',g)
 | [],acc,y,_=>⟨y,by simp [AU,RE]⟩
 | a::S,acc,y,h=>by
  refine RG (h a (.head _)) fun h1 h2 h3=>?_
  obtain ⟨y',q⟩:=HB S (acc|||ma a) (some (vi a)) fun b hb=>h b (.tail _ hb)
  refine ⟨y',Ab (σ1:=Gc w t row acc (some (vi a))) rfl (KV (Sy w a h1 h2 h3)) ?_⟩
  rw [q]
  simp only [List.map_cons,RE,Nat.or_assoc]
theorem N7 {n m:Nat} {w:Bool} {g:G} {t:Int} {K:Kn} (gk:GK m g) (h:Kd g t K) (hs:SK w K):AA (n+1) (.fn 61) [.tab,.dct (AZ w),vi t] g=some (vn (Ap K),g):=by
 have start:∀ (row:PV) (S:List Int) (acc:Nat) (y:Option VV),(∃ i:Nat,t=i∧g.rows[i]?=some row)→VE (AA n) (.ite (.cmp .Eq (.sub (.loc 3) (.int 0)) (.gl 23)) (.sub (.loc 3) (.int 1)) (.tup [.loc 2])) (Gc w t row 0 none) g=some (.imm (.tup (S.map .int)),g) →
   AU (Bv (AA n) Tj) (.one 5) (S.map vi) (Gc w t row 0 none) g=some (.next,Gc w t row acc y,g)→AA (n+1) (.fn 61) [.tab,.dct (AZ w),vi t] g=some (vn acc,g):=by
  rintro row S acc y ⟨i,rfl,hr⟩ he hl
  refine AX (σ:=[sv .tab,sv (.dct (AZ w)),sv (vn i),none,none,none]) rfl rfl (by decide) (AF (AE rfl) rfl (Af rfl (w:=.rws) (g1:=g) (k:=vn i) rfl rfl (Az hr)) (AF (AE rfl) rfl (w:=vi 0) (g1:=g) rfl ?_))
  refine Ai (σ0:=Gc w i row 0 none) (its:=S.map vi) (AE rfl) he (by show some ((S.map PV.int).map VV.imm)=_;rw [←JB]) hl ?_
  exact AS (σ0:=Gc w i row acc y) (AE (by cases y<;>rfl)) rfl
 have allowed:∀ a∈toS K,a∈AI∧(w=true→a≠1)∧(w=false→a≠3):=fun a ha=>by
  refine oA (Ae.mp ha) fun h1 h2=>?_
  refine ⟨h1,fun hw e=>?_,fun hw e=>?_⟩
  ·subst e;unfold SK at hs;rw [if_pos hw,h2] at hs;exact nT hs
  ·subst e;unfold SK at hs;rw [if_neg (by simp [hw]),h2] at hs;exact nT hs
 have rowc:∀ (k:Int) (x:List PV),k≠6→x.length≤10→VE (AA n) (.ite (.cmp .Eq (.sub (.loc 3) (.int 0)) (.gl 23)) (.sub (.loc 3) (.int 1)) (.tup [.loc 2])) (Gc w t (.tup (.int k::x)) 0 none) g=some (.imm (.tup ([t].map .int)),g):=fun k x hk hx =>
  A9 (t:=false) (g1:=g) (AK (x:=vi k) (y:=vi 6) (g1:=g) (g2:=g) (Af rfl (w:=.imm (.tup (.int k::x))) (g1:=g) (k:=vi 0) rfl rfl (C9 (i:=0) (by simp;omega) rfl)) rfl (Ak (decide_eq_false hk))) rfl
 refine Or.elim (h.rep) (fun z0=>oA z0 fun e1 e2=>?_) fun z2=>Or.elim z2 (fun e1=>?_) fun z1=>oAEA z1 fun e1 i e2 e3=>?_
 ·subst e2
  have hm:Ap K=0:=by unfold Ap;rw [e1];rfl
  rw [hm]
  have hg:∀ d,NL (AZ w) 2 d=vn 0:=by cases w<;>intro d<;>rfl
  exact start _ [2] 0 (some (vi 2)) ⟨2,rfl,gk.row Ey⟩ (rowc 1 _ (by decide) (by simp)) (Ab (σ1:=Gc w 2 _ 0 (some (vi 2))) rfl (KV hg) BA)
 ·have ha:t∈AI:=(Ae.mp (by rw [e1];exact .head _:t∈toS K)).1
  refine oEEAAA (Da t ha) fun k x h1 h2 h3 h4=>?_
  refine oE (HB (C:=AA n) (w:=w) (t:=t) (row:=.tup (.int k::x)) (g:=g) (toS K) 0 none allowed) fun y q=>?_
  rw [Nat.zero_or] at q
  refine start _ (toS K) _ y ⟨t.toNat,by omega,gk.row h1⟩ ?_ q
  rw [e1];exact rowc k x h2 h4
 ·obtain ⟨y,q⟩:=HB (C:=AA n) (w:=w) (t:=t) (row:=EM (toS K)) (g:=g) (toS K) 0 none allowed
  rw [Nat.zero_or] at q
  exact start _ (toS K) _ y ⟨i,e2,e3⟩ (A9 (t:=true) (g1:=g) rfl rfl) q
noncomputable def qD (q:Pl):Nat×Bool:=(Ap q.K,q.late)
noncomputable abbrev Q7 (w:Bool) (j:Nat) (P:List (Nat×Bool)) (T:VV) (a b c d:Option VV):VL:=[sv .tab,sv (.dct (AZ w)),sv (vn j),some (.own (P.map dE)),sv T,a.map VS.val,b.map VS.val,c.map VS.val,d.map VS.val]
noncomputable abbrev TG:List PS:=[.ite (.cmp .GtE (.loc 4) (.int 0)) [.ret (.tup [.list [],.int 8192])] [],.ite (.cmp .Eq (.loc 7) (.gl 83)) [.assign 8 (.sub (.attr (.loc 0) 4) (.loc 6)),.assign 4 (.ite (.bop .And [.cmp .Eq (.sub (.loc 8) (.int 0)) (.gl 6),.cmp .Eq (.sub (.loc 8) (.int 2)) (.int 0)]) (.call (.gl 119) [.loc 0,.loc 1,.sub (.loc 8) (.int 1)]) (.int 8192))] [.expr (.meth (.loc 3) 0 [.tup [.call (.gl 119) [.loc 0,.loc 1,.loc 6],.ite (.cmp .Eq (.loc 7) (.gl 88)) (.int 1) (.int 0)]])]]
theorem KJ {n m:Nat} {w:Bool} {g:G} {j:Nat} (gk:GK m g) {tl:List VV}:∀ (qs:List Pl) (P:List (Nat×Bool)) (a b c d:Option VV),(∀ q∈qs,Kd g q.t q.K∧SK w q.K)→P.length+qs.length≤100 →
  ∃ a' b' c' d',AU (Bv (AA (n+1)) TG) (.many [5,6,7]) ((qs.map fun q=>.imm (pv q))++tl) (Q7 w j P (vi (-1)) a b c d) g=AU (Bv (AA (n+1)) TG) (.many [5,6,7]) tl (Q7 w j (P++qs.map qD) (vi (-1)) a' b' c' d') g
 | [],P,a,b,c,d,_,_=>⟨a,b,c,d,by simp⟩
 | q::qs,P,a,b,c,d,h,hl=>by
  refine oA (h q (.head _)) fun hk hs=>?_
  simp only [List.length_cons] at hl
  obtain ⟨a',b',c',d',z⟩:=KJ gk qs (P++[qD q]) (some (.imm (.str q.nm))) (some (vi q.t)) (some (vi (mk q.late))) d (fun r hr=>h r (.tail _ hr)) (by simp;omega)
  refine ⟨a',b',c',d',?_⟩
  rw [List.map_cons,List.cons_append]
  let σ1:VL:=Q7 w j P (vi (-1)) (some (.imm (.str q.nm))) (some (vi q.t)) (some (vi (mk q.late))) d
  refine Ab (σ1:=σ1) (σ2:=Q7 w j (P++[qD q]) (vi (-1)) (some (.imm (.str q.nm))) (some (vi q.t)) (some (vi (mk q.late))) d) (g2:=g) rfl ?_ ?_
  ·refine AD (σ1:=σ1) (g1:=g) (Ag (σ0:=σ1) (b:=false) rfl (AK (x:=vi (-1)) (y:=vi 0) rfl rfl rfl) AG) (AD (σ1:=Q7 w j (P++[qD q]) (vi (-1)) (some (.imm (.str q.nm))) (some (vi q.t)) (some (vi (mk q.late))) d) (g1:=g) ?_ AG)
   refine Ag (σ0:=σ1) (b:=false) rfl (AK (x:=vi (mk q.late)) (y:=vi 2) (g1:=g) (g2:=g) rfl rfl (Ak (by cases q.late<;>rfl))) (AD (σ1:=Q7 w j (P++[qD q]) (vi (-1)) (some (.imm (.str q.nm))) (some (vi q.t)) (some (vi (mk q.late))) d) (g1:=g) ?_ AG)
   have:=Ao (C:=AA (n+1)) (i:=3) (a:=.tup [.call (.gl 119) [.loc 0,.loc 1,.loc 6],.ite (.cmp .Eq (.loc 7) (.gl 88)) (.int 1) (.int 0)]) (σ:=σ1) (σ0:=σ1) (g:=g) (g1:=g) (l:=P.map dE) (w:=dE (qD q)) rfl
    (CL (vs:=[vn (Ap q.K),vi (mk q.late)]) (AB (AH rfl rfl (vs:=[.tab,.dct (AZ w),vi q.t]) rfl (N7 (n:=n) gk hk hs)) (AB (A9 (t:=q.late) (g1:=g) (AK (x:=vi (mk q.late)) (y:=vi 1) (g1:=g) (g2:=g) rfl rfl (Ak (by cases q.late<;>rfl))) (x:=(vi (mk q.late),g)) (by cases q.late<;>rfl)) AR))) rfl (by simp;omega)
   rw [this];simp [Q7,σ1]
  ·rw [z];simp
theorem XS {n m:Nat} {w:Bool} {own:PV} {g:G} {j:Nat} {qs:List Pl} {tlp:List PV} {ret:Int} {T:Int} (gk:GK m g) (hr:g.rows[j]?=some (B6 own (qs.map pv++tlp) ret)) (hq:∀ q∈qs,Kd g q.t q.K∧SK w q.K) (hl:qs.length≤50)
  (ht:(tlp=[]∧T=-1)∨∃ (a:Nat) (t:Int) (K:Kn) (nm:Str),tlp=[.tup [.str nm,.int a,.int 2]]∧g.rows[a]?=some (.tup [.int 11,.int t,.int 0])∧Kd g t K∧SK w K∧T=Ap K) :
  AA (n+2) (.fn 62) [.tab,.dct (AZ w),vn j] g=some (DV ⟨qs.map qD,T⟩,g):=by
 refine oEEEE (KJ (n:=n) (w:=w) (j:=j) gk (tl:=tlp.map VV.imm) qs [] none none none none hq (by simp;omega)) fun a' b' c' d' z=>?_
 rw [List.nil_append] at z
 have start:∀ a b c d,AU (Bv (AA (n+1)) TG) (.many [5,6,7]) ((qs.map fun q=>.imm (pv q))++tlp.map VV.imm) (Q7 w j [] (vi (-1)) none none none none) g=some (.next,Q7 w j (qs.map qD) (vi T) a b c d,g)→AA (n+2) (.fn 62) [.tab,.dct (AZ w),vn j] g=some (DV ⟨qs.map qD,T⟩,g):=by
  intro a b c d hv
  refine AX (σ:=[sv .tab,sv (.dct (AZ w)),sv (vn j),none,none,none,none,none,none]) rfl rfl (by decide) (B5 (AE rfl) rfl (AF (σ0:=[sv .tab,sv (.dct (AZ w)),sv (vn j),some (.own []),none,none,none,none,none]) (w:=vi (-1)) (g1:=g) rfl rfl rfl ?_))
  refine Ai (σ0:=Q7 w j [] (vi (-1)) none none none none) (w:=.imm (.tup (qs.map pv++tlp))) (g1:=g) (its:=(qs.map fun q=>.imm (pv q))++tlp.map VV.imm) rfl (Af rfl (w:=.imm (B6 own (qs.map pv++tlp) ret)) (g1:=g) (k:=vi 2) (Af rfl (w:=.rws) (g1:=g) (k:=vn j) rfl rfl (Az hr)) rfl rfl) ?_ hv ?_
  ·show some ((qs.map pv++tlp).map VV.imm)=_
   rw [List.map_append,List.map_map];rfl
  ·exact AS (σ0:=[sv .tab,sv (.dct (AZ w)),sv (vn j),sv (.lst ((qs.map qD).map dE)),sv (vi T),a.map VS.val,b.map VS.val,c.map VS.val,d.map VS.val]) rfl rfl
 rcases ht with ⟨rfl,rfl⟩ | ⟨a,t,K,nm,rfl,h1,h2,h3,rfl⟩
 ·exact start a' b' c' d' (z.trans BA)
 ·refine start (some (.imm (.str nm))) (some (vn a)) (some (vi 2)) (some (.imm (.tup [.int 11,.int t,.int 0]))) (z.trans ?_)
  let σ1:VL:=Q7 w j (qs.map qD) (vi (-1)) (some (.imm (.str nm))) (some (vn a)) (some (vi 2)) d'
  let σ2:VL:=Q7 w j (qs.map qD) (vi (-1)) (some (.imm (.str nm))) (some (vn a)) (some (vi 2)) (some (.imm (.tup [.int 11,.int t,.int 0])))
  let σ3:VL:=Q7 w j (qs.map qD) (vn (Ap K)) (some (.imm (.str nm))) (some (vn a)) (some (vi 2)) (some (.imm (.tup [.int 11,.int t,.int 0])))
  refine Ab (σ1:=σ1) (σ2:=σ3) (g2:=g) rfl ?_ BA
  refine AD (σ1:=σ1) (g1:=g) (Ag (σ0:=σ1) (b:=false) rfl (AK (x:=vi (-1)) (y:=vi 0) rfl rfl rfl) AG) (AD (σ1:=σ3) (g1:=g) ?_ AG)
  refine Ag (σ0:=σ1) (b:=true) rfl (AK (x:=vi 2) (y:=vi 2) (g1:=g) (g2:=g) rfl rfl rfl) (AD (σ1:=σ2) (g1:=g) (AO (σ0:=σ1) rfl rfl (Af rfl (w:=.rws) (g1:=g) (k:=vn a) rfl rfl (Az h1))) (AD (σ1:=σ3) (g1:=g) ?_ AG))
  exact AO (σ0:=σ2) rfl rfl (A9 (t:=true) (g1:=g) (by rfl) (AH rfl rfl (vs:=[.tab,.dct (AZ w),vi t]) (by rfl) (N7 (n:=n) gk h2 h3)))
theorem YA {m:Nat} {g:G} (gk:GK m g) {t:Int} {K:Kn} (h:Kd g t K):∃ (i:Nat) (row:PV),t=i∧g.rows[i]?=some row∧(row=EM (toS K)∨∃ k x,row=.tup (.int k::x)∧k≠6∧x.length≤10):=by
 refine Or.elim (h.rep) (fun z0=>oA z0 fun e1 e2=>?_) fun z2=>Or.elim z2 (fun e1=>?_) fun z1=>oAEA z1 fun e1 i e2 e3=>?_
 ·exact ⟨2,_,e2,gk.row Ey,.inr ⟨1,_,rfl,by decide,by simp⟩⟩
 ·have ha:t∈AI:=(Ae.mp (by rw [e1];exact .head _:t∈toS K)).1
  obtain ⟨k,x,h1,h2,h3,h4⟩:=Da t ha
  exact ⟨t.toNat,_,by omega,gk.row h1,.inr ⟨k,x,rfl,h2,h4⟩⟩
 ·exact ⟨i,_,e2,e3,.inl rfl⟩
noncomputable def rE (e:Int×Nat):VV:=.imm (.tup [.int e.1,.int e.2])
noncomputable abbrev WC (w:Bool) (j:Nat) (rs:List (Int×Nat)) (own row:PV) (acc:Nat) (a b c:Option VV):VL:=[sv .tab,sv (.dct (AZ w)),sv (vn j),sv (.lst (rs.map rE)),sv (.imm own),sv (.imm row),sv (vn acc),c.map VS.val,none,a.map VS.val,b.map VS.val,none,none]
theorem JJ {C:VC} {w:Bool} {j:Nat} {all:List (Int×Nat)} {own row:PV} {g:G}:∀ (rs:List (Int×Nat)) (acc:Nat) (a b:Option VV),
  ∃ a' b',AU (Bv C [.aug 6 .BitOr (.loc 10)]) (.many [9,10]) (rs.map rE) (WC w j all own row acc a b none) g=some (.next,WC w j all own row (acc|||RE (rs.map (·.2))) a' b' none,g)
 | [],acc,a,b=>⟨a,b,by simp [AU,RE]⟩
 | e::rs,acc,a,b=>by
  obtain ⟨a',b',q⟩:=JJ rs (acc|||e.2) (some (vi e.1)) (some (vn e.2))
  let σ1:VL:=WC w j all own row acc (some (vi e.1)) (some (vn e.2)) none
  refine ⟨a',b',Ab (σ1:=σ1) (σ2:=WC w j all own row (acc|||e.2) (some (vi e.1)) (some (vn e.2)) none) (g2:=g) rfl (AD ?_ AG) ?_⟩
  ·exact Pi (σ0:=σ1) (AE (by rfl)) rfl rfl (YI acc e.2)
  ·rw [q]
   simp only [List.map_cons,RE,Nat.or_assoc]
theorem NZ (a b:List Int):YK (.imm (.tup (a.map .int))) (.imm (.tup (b.map .int)))=some (decide (a=b)):=AJ (FI a) (Bz (FI b))
theorem VM {n m:Nat} {w:Bool} {own:PV} {os:List Int} {g:G} {j:Nat} {ps:List PV} {ret:Int} {R:Kn} {rs:List (Int×Nat)} (gk:GK m g) (ho:own=.tup (os.map .int)) (hr:g.rows[j]?=some (B6 own ps ret)) (hR:Kd g ret R) (hs:SK w R) (hrl:rs.length≤100)
  (h1:Ap R=RE (rs.map (·.2))) (h2:(R 3&&R 4)=false) (h3:R 0=decide (0∈rs.map (·.1))) (h4:R 1=(decide (1∈rs.map (·.1))&&!decide (0∈rs.map (·.1)))) :
  AA (n+2) (.fn 63) [.tab,.dct (AZ w),vn j,.lst (rs.map rE),.imm own] g=some (vb true,g):=by
 let row:=B6 own ps ret
 refine oEE (JJ (C:=AA (n+1)) (w:=w) (j:=j) (all:=rs) (own:=own) (row:=row) (g:=g) rs 0 none none) fun a b q=>?_
 rw [Nat.zero_or,←h1] at q
 have hown:∃ l,own=.tup l:=⟨_,ho⟩
 let ks:VV:=.lst ((rs.map (·.1)).map vi)
 let σ:VL:=WC w j rs own row (Ap R) a b (some ks)
 have NOσ:NO σ=true:=by cases a<;>cases b<;>rfl
 have start:Rt (AA (n+1)) (DF.body.drop 4) σ g (vb true) g→AA (n+2) (.fn 63) [.tab,.dct (AZ w),vn j,.lst (rs.map rE),.imm own] g=some (vb true,g):=by
  intro hv
  refine AX (σ:=[sv .tab,sv (.dct (AZ w)),sv (vn j),sv (.lst (rs.map rE)),sv (.imm own),none,none,none,none,none,none,none,none]) rfl rfl (by decide) (AF (AE rfl) rfl (Af rfl (w:=.rws) (g1:=g) (k:=vn j) rfl rfl (Az hr)) (AF (AE rfl) rfl (w:=vi 0) (g1:=g) rfl ?_))
  refine Ai (σ0:=WC w j rs own row 0 none none none) (w:=.lst (rs.map rE)) (g1:=g) (AE rfl) rfl rfl q ?_
  have NO1:NO (WC w j rs own row (Ap R) a b none)=true:=by cases a<;>cases b<;>rfl
  refine AF (σ0:=WC w j rs own row (Ap R) a b none) (w:=ks) (g1:=g) (AE NO1) rfl ?_ hv
  have hc:=Bl (elt:=VE (AA (n+1)) (.loc 11)) (cond:=VT (AA (n+1)) (.bool true) (VE (AA (n+1)) (.bool true))) (t:=.many [11,12]) (σ:=WC w j rs own row (Ap R) a b none) (g:=g) (fun _=>true) (fun e:Int×Nat=>vi e.1) rE rs [] (by simp;omega) fun e he=>⟨_,rfl,rfl,fun _=>rfl⟩
  refine BO (w:=.lst (rs.map rE)) (g1:=g) (its:=rs.map rE) rfl rfl (hc.trans ?_)
  have hf:rs.filter (fun _=>true)=rs:=List.filter_eq_self.mpr fun _ _=>rfl
  rw [hf,List.nil_append]
  show some (rs.map (fun e=>vi e.1),g)=some ((rs.map (·.1)).map vi,g)
  rw [List.map_map];rfl
 have r1:VE (AA (n+1)) (.sub (.loc 5) (.int 1)) σ g=some (.imm own,g):=by rfl
 have r3:VE (AA (n+1)) (.sub (.loc 5) (.int 3)) σ g=some (vi ret,g):=by rfl
 have r4:VE (AA (n+1)) (.sub (.loc 5) (.int 4)) σ g=some (.imm (.tup []),g):=by rfl
 have r5:VE (AA (n+1)) (.sub (.loc 5) (.int 5)) σ g=some (vi 0,g):=by rfl
 have c1:VT (AA (n+1)) (.cmp .NotEq (.sub (.loc 5) (.int 1)) (.loc 4)) (VE (AA (n+1)) (.cmp .NotEq (.sub (.loc 5) (.int 1)) (.loc 4))) σ g=some (false,g):=by
  refine AK (y:=.imm own) r1 rfl ?_
  show (YK (.imm own) (.imm own)).map (!·)=_
  rw [ho,NZ];simp
 have c2:VT (AA (n+1)) (.cmp .NotEq (.sub (.loc 5) (.int 4)) (.tup [])) (VE (AA (n+1)) (.cmp .NotEq (.sub (.loc 5) (.int 4)) (.tup []))) σ g=some (false,g):=AK (y:=.imm (.tup [])) r4 rfl (by rfl)
 have c3:VT (AA (n+1)) (.cmp .NotEq (.sub (.loc 5) (.int 5)) (.int 0)) (VE (AA (n+1)) (.cmp .NotEq (.sub (.loc 5) (.int 5)) (.int 0))) σ g=some (false,g):=AK r5 rfl (by rfl)
 have c4:VT (AA (n+1)) (.cmp .NotEq (.call (.gl 119) [.loc 0,.loc 1,.sub (.loc 5) (.int 3)]) (.loc 6)) (VE (AA (n+1)) (.cmp .NotEq (.call (.gl 119) [.loc 0,.loc 1,.sub (.loc 5) (.int 3)]) (.loc 6))) σ g=some (false,g) :=
  AK (x:=vn (Ap R)) (y:=vn (Ap R)) (AH rfl rfl (vs:=[.tab,.dct (AZ w),vi ret]) (AB (v:=.tab) (g1:=g) rfl (AB (v:=.dct (AZ w)) (g1:=g) rfl (AB r3 AR))) (N7 (n:=n) gk hR hs)) rfl (CQ (by simp))
 refine oEEAA (YA gk hR) fun i hrow hi hg hkind=>?_
 let σ2:VL:=σ.set 8 (sv (.imm hrow))
 have NOσ2:NO σ2=true:=by cases a<;>cases b<;>rfl
 refine start (As (σ0:=σ) (AE NOσ) (Bm c1 (Bm c2 (Bm c3 (Bm c4 EW)))) (AF (σ0:=σ) (AE NOσ) rfl (Af rfl (w:=.rws) (g1:=g) (k:=vn i) rfl (by rw [hi] at r3;exact r3) (Az hg)) ?_))
 have held0:∀ k x,hrow=.tup (.int k::x)→x.length≤10→∀ z,decide (k=6)=z→VT (AA (n+1)) (.cmp .Eq (.sub (.loc 8) (.int 0)) (.gl 23)) (VE (AA (n+1)) (.cmp .Eq (.sub (.loc 8) (.int 0)) (.gl 23))) σ2 g=some (z,g):=fun k x hk hx z hz =>
  AK (x:=vi k) (y:=vi 6) (g1:=g) (g2:=g) (Af rfl (w:=.imm hrow) (g1:=g) (k:=vi 0) rfl rfl (by rw [hk];exact C9 (i:=0) (by simp;omega) rfl)) rfl (Ak hz)
 refine As (σ0:=σ2) (AE NOσ2) (g1:=g) ?_ ?_
 ·refine Or.elim hkind (fun hk=>?_) fun z0=>oEEAA z0 fun k x hk hk6 hx=>?_
  ·refine A5 (held0 6 _ hk (by simp) true rfl) ?_
   have mem:∀ v:Int,v∈AI→decide (v∈toS R)=R v:=fun v hv=>by rw [Bool.eq_iff_iff];simp [Ae,hv]
   have i1:∀ (e:PE) (v:Int),VE (AA (n+1)) e σ2 g=some (vi v,g)→v∈AI→VT (AA (n+1)) (.cmp .In e (.sub (.loc 8) (.int 1))) (VE (AA (n+1)) (.cmp .In e (.sub (.loc 8) (.int 1)))) σ2 g=some (R v,g):=fun e v he hv =>
    AK (x:=vi v) (y:=.imm (.tup ((toS R).map .int))) he (Af rfl (w:=.imm hrow) (g1:=g) (k:=vi 1) rfl rfl (by rw [hk];rfl)) (Lr (mem v hv))
   have a3:=i1 (.gl 93) 3 rfl (by decide)
   have a4:=i1 (.gl 45) 4 rfl (by decide)
   cases z3:R 3 with
   | false=>rw [z3] at a3;exact A6 a3
   | true =>
    rw [z3] at a3 h2
    have z4:R 4=false:=by simpa using h2
    rw [z4] at a4
    exact A5 a3 (A6 a4)
  ·exact A6 (held0 k x hk hx false (decide_eq_false hk6))
 ·have kin:∀ (v:Int),EP .In (vi v) ks=some (decide (v∈rs.map (·.1))):=fun v=>by
   show (Cz _).map _=_
   rw [CC];rfl
  have e0:VE (AA (n+1)) (.cmp .Eq (.sub (.loc 5) (.int 3)) (.gl 35)) σ2 g=some (vb (R 0),g):=CM (x:=vi ret) (y:=vi 0) (by rfl) rfl (Ak (by rw [Bool.eq_iff_iff,decide_eq_true_iff];exact LT gk hR))
  have e1:VE (AA (n+1)) (.cmp .Eq (.sub (.loc 5) (.int 3)) (.gl 37)) σ2 g=some (vb (R 1),g):=CM (x:=vi ret) (y:=vi 1) (by rfl) rfl (Ak (by rw [Bool.eq_iff_iff,decide_eq_true_iff];exact LS gk hR))
  have i0:VE (AA (n+1)) (.cmp .In (.gl 35) (.loc 7)) σ2 g=some (vb (R 0),g):=CM (x:=vi 0) (y:=ks) rfl rfl ((kin 0).trans (by rw [h3]))
  have i1:VE (AA (n+1)) (.bop .And [.cmp .In (.gl 37) (.loc 7),.cmp .NotIn (.gl 35) (.loc 7)]) σ2 g=some (vb (R 1),g):=by
   rw [h4]
   exact QR (CM (x:=vi 1) (y:=ks) rfl rfl (kin 1)) (CM (x:=vi 0) (y:=ks) rfl rfl (by show (EP .In (vi 0) ks).map (!·)=_;rw [kin];rfl))
  have hb:∀ z:Bool,EP .Eq (vb z) (vb z)=some true:=fun z=>by cases z<;>rfl
  refine AS (σ0:=σ2) (AE NOσ2) ((QR (x:=true) (y:=true) (CM e0 i0 (hb _)) (CM e1 i1 (hb _))).trans rfl)
noncomputable def I0:List Nat→Nat
 | []=>0
 | a::l=>max a (I0 l)
theorem JA:∀ (l:List Nat),l≠[]→FM (l.map fun a:Nat=>(a:Int))=I0 l
 | [],h=>absurd rfl h
 | [a],_=>by simp [FM,I0]
 | a::b::l,_=>by
  have ih:=JA (b::l) (by simp)
  simp only [List.map_cons] at ih
  simp only [List.map_cons,FM,ih]
  show (if (a:Int)<(I0 (b::l):Nat) then ((I0 (b::l):Nat):Int) else (a:Int))=((max a (I0 (b::l)):Nat):Int)
  split<;>omega
noncomputable def NE (Ps:List Dt):Nat:=I0 (Ps.map BY)
noncomputable def TE (Ps:List Dt):Nat:=I0 (Ps.map fun d=>d.pl.length)
noncomputable def FE (Ps:List Dt):Bool:=Ps.any fun d=>decide (0≤d.tail)
noncomputable def Jg (i:Nat) (m:Nat) (d:Dt):Nat:=if 0≤EL d i then m&&&(EL d i).toNat else m
noncomputable def want (Ps:List Dt) (i:Nat):Nat:=Ps.foldl (Jg i) 4095
noncomputable def P7 (r:Dt) (c:Nat):Bool:=decide (BY r≤c)&&(decide (0≤r.tail)||decide (c≤r.pl.length))
noncomputable def BW (Ps:List Dt) (c:Nat):Bool:=decide (NE Ps≤c)&&(FE Ps||decide (c≤TE Ps))
structure MI (w:Bool) (Ps:List Dt) (rds:List Dt):Prop where
 ne:Ps≠[]
 pl:∀ d∈Ps,d.pl.length≤50
 pn:Ps.length≤50
 rl:∀ d∈rds,d.pl.length≤50
 rn:rds.length≤50
 one:∀ c,c<TE Ps+3→(∀ r∈rds,P7 r c=true→BW Ps c=true∧∀ i,i<c→EL r i=want Ps i)∧(BW Ps c=true→∃ r∈rds,P7 r c=true)
 cnt:w=true∨rds.length=if ((List.range' (NE Ps) (TE Ps-NE Ps)).any fun i=>decide (want Ps i&&&1=0))=true then TE Ps-NE Ps+1 else 1
theorem Iz {l:List Nat} {b:Nat} (h:∀ a∈l,a≤b):I0 l≤b:=by
 induction l with
 | nil=>simp [I0]
 | cons a l ih =>
  have:=h a (.head _)
  have:=ih fun x hx=>h x (.tail _ hx)
  simp only [I0];omega
theorem JD {l:List Nat} {a:Nat} (h:a∈l):a≤I0 l:=by
 induction l with
 | nil=>cases h
 | cons b l ih =>
  simp only [I0]
  rcases mC h with rfl | h
  ·omega
  ·have:=ih h;omega
section
variable {n:Nat} {w:Bool} {B own:PV} {RV wd RD:VV} {Ps:List Dt} {g:G} {N T:Nat} {F:Bool}
noncomputable abbrev HN (w:Bool) (B own:PV) (RV wd RD:VV) (Ps:List Dt) (N T:Nat) (F:Bool) (w11 a12 a13 a14 a16 a17 a18 a19 a20:Option VS):VL :=
 [sv .tab,sv (.dct (AZ w)),sv (.imm B),sv (.lst (Ps.map DV)),sv RV,sv (.imm own),sv wd,sv (vn N),sv (vn T),sv (vb F),sv RD,w11,a12,a13,a14,none,a16,a17,a18,a19,a20,none,none,none,none,none,none]
noncomputable abbrev W2:List PS:=[.ite (.cmp .GtE (.call (.gl 118) [.loc 17,.loc 12]) (.int 0)) [.aug 16 .BitAnd (.call (.gl 118) [.loc 17,.loc 12])] []]
theorem Dc {w11:Option VS} {i:Nat}:∀ (l:List Dt) (m:Nat) (a17:Option VS),(∀ d∈l,d.pl.length≤50) →
  ∃ a17',AU (Bv (AA (n+2)) W2) (.one 17) (l.map DV) (HN w B own RV wd RD Ps N T F w11 (sv (vn i)) none none (sv (vn m)) a17 none none none) g=some (.next,HN w B own RV wd RD Ps N T F w11 (sv (vn i)) none none (sv (vn (l.foldl (Jg i) m))) a17' none none none,g)
 | [],m,a17,_=>⟨a17,BA⟩
 | d::l,m,a17,h=>by
  refine oE (Dc (w11:=w11) (i:=i) l (Jg i m d) (sv (DV d)) fun x hx=>h x (.tail _ hx)) fun a17' q=>?_
  refine ⟨a17',?_⟩
  let σ1:VL:=HN w B own RV wd RD Ps N T F w11 (sv (vn i)) none none (sv (vn m)) (sv (DV d)) none none none
  have ea:VE (AA (n+2)) (.call (.gl 118) [.loc 17,.loc 12]) σ1 g=some (vi (EL d i),g):=AH rfl rfl (vs:=[DV d,vn i]) rfl (XW (by have:=h d (.head _);omega) i)
  refine Ab (σ1:=σ1) (σ2:=HN w B own RV wd RD Ps N T F w11 (sv (vn i)) none none (sv (vn (Jg i m d))) (sv (DV d)) none none none) (g2:=g) rfl (AD ?_ AG) q
  unfold Jg
  by_cases h0:0≤EL d i
  ·rw [if_pos h0]
   refine Ag (σ0:=σ1) (b:=true) rfl (AK (x:=vi (EL d i)) (y:=vi 0) ea rfl (EA (decide_eq_true h0))) (AD ?_ AG)
   exact Pi (σ0:=σ1) rfl rfl ea (z:=((m&&&(EL d i).toNat:Nat):Int)) (by
    show (if (0:Int)≤(m:Int)∧0≤EL d i then some (((m:Int).toNat&&&(EL d i).toNat:Nat):Int) else none)=_
    rw [if_pos ⟨Int.natCast_nonneg m,h0⟩];rfl)
  ·rw [if_neg h0]
   exact Ag (σ0:=σ1) (b:=false) rfl (AK (x:=vi (EL d i)) (y:=vi 0) ea rfl (EA (decide_eq_false h0))) AG
noncomputable abbrev ZF:List PS:=[.assign 16 (.int 4095),.loop (.one 17) (.loc 3) W2,.expr (.meth (.loc 11) 0 [.loc 16])]
theorem IO (hp:∀ d∈Ps,d.pl.length≤50):∀ (c k:Nat) (ws:List Nat) (a12 a16 a17:Option VS),ws.length+c≤100 →
  ∃ a12' a16' a17',AU (Bv (AA (n+2)) ZF) (.one 12) ((List.range' k c).map vn) (HN w B own RV wd RD Ps N T F (some (.own (ws.map vn))) a12 none none a16 a17 none none none) g=some (.next,HN w B own RV wd RD Ps N T F (some (.own ((ws++(List.range' k c).map (want Ps)).map vn))) a12' none none a16' a17' none none none,g)
 | 0,k,ws,a12,a16,a17,_=>⟨a12,a16,a17,by simp [AU]⟩
 | c+1,k,ws,a12,a16,a17,hl=>by
  refine oEEE (IO hp c (k+1) (ws++[want Ps k]) (sv (vn k)) (sv (vn (want Ps k))) ((Dc (n:=n) (w:=w) (B:=B) (own:=own) (RV:=RV) (wd:=wd) (RD:=RD) (Ps:=Ps) (g:=g) (N:=N) (T:=T) (F:=F) (w11:=some (.own (ws.map vn))) (i:=k) Ps 4095 a17 hp).choose) (by simp;omega)) fun a12' a16' a17' q=>?_
  have z:=(Dc (n:=n) (w:=w) (B:=B) (own:=own) (RV:=RV) (wd:=wd) (RD:=RD) (Ps:=Ps) (g:=g) (N:=N) (T:=T) (F:=F) (w11:=some (.own (ws.map vn))) (i:=k) Ps 4095 a17 hp).choose_spec
  generalize (Dc (n:=n) (w:=w) (B:=B) (own:=own) (RV:=RV) (wd:=wd) (RD:=RD) (Ps:=Ps) (g:=g) (N:=N) (T:=T) (F:=F) (w11:=some (.own (ws.map vn))) (i:=k) Ps 4095 a17 hp).choose=b17 at q z
  refine ⟨a12',a16',a17',?_⟩
  rw [List.range'_succ,List.map_cons]
  let σ1:VL:=HN w B own RV wd RD Ps N T F (some (.own (ws.map vn))) (sv (vn k)) none none a16 a17 none none none
  let σ2:VL:=HN w B own RV wd RD Ps N T F (some (.own (ws.map vn))) (sv (vn k)) none none (sv (vn 4095)) a17 none none none
  let σ3:VL:=HN w B own RV wd RD Ps N T F (some (.own (ws.map vn))) (sv (vn k)) none none (sv (vn (want Ps k))) b17 none none none
  refine Ab (σ1:=σ1) (σ2:=HN w B own RV wd RD Ps N T F (some (.own ((ws++[want Ps k]).map vn))) (sv (vn k)) none none (sv (vn (want Ps k))) b17 none none none) (g2:=g) rfl (AD (σ1:=σ2) (g1:=g) rfl (AD (σ1:=σ3) (g1:=g) ?_ (AD ?_ AG))) ?_
  ·show AU _ _ _ _ _=_
   exact z
  ·have:=Ao (C:=AA (n+2)) (i:=11) (a:=.loc 16) (σ:=σ3) (σ0:=σ3) (g:=g) (g1:=g) (l:=ws.map vn) (w:=vn (want Ps k)) rfl rfl rfl (by simp;omega)
   rw [this];simp [HN,σ3]
  ·rw [q];simp
noncomputable abbrev UY:List PS:=[.ite (.bop .And [.cmp .LtE (.call (.gl 120) [.loc 20]) (.loc 13),.bop .Or [.cmp .GtE (.sub (.loc 20) (.int 1)) (.int 0),.cmp .LtE (.loc 13) (.call (.gl 1) [.sub (.loc 20) (.int 0)])]]) [.assign 19 (.bool true),.ite (.bop .Or [.not (.loc 18),.cmp .NotEq (.comp (.call (.gl 118) [.loc 20,.loc 25]) (.one 25) (.call (.gl 7) [.loc 13]) (.bool true)) (.slTo (.loc 11) (.loc 13))]) [.ret (.bool false)] []] []]
theorem G8 {ws:List Nat} {c:Nat} {L:Bool} {a12 a14 a16 a17:Option VS} (hc:c≤ws.length) (hw:ws.length≤100):∀ (l:List Dt) (w11:Option VS) (f:Bool) (a20:Option VS),(w11=some (.own (ws.map vn))∨w11=sv (.lst (ws.map vn)))→(∀ d∈l,d.pl.length≤50)→(∀ r∈l,P7 r c=true→L=true∧∀ i,i<c→EL r i=(ws[i]?.getD 0:Nat)) →
  ∃ w11' a20',(w11'=some (.own (ws.map vn))∨w11'=sv (.lst (ws.map vn)))∧AU (Bv (AA (n+3)) UY) (.one 20) (l.map DV) (HN w B own RV wd RD Ps N T F w11 a12 (sv (vn c)) a14 a16 a17 (sv (vb L)) (sv (vb f)) a20) g=some (.next,HN w B own RV wd RD Ps N T F w11' a12 (sv (vn c)) a14 a16 a17 (sv (vb L)) (sv (vb (f||l.any fun r=>P7 r c))) a20',g)
 | [],w11,f,a20,hw11,_,_=>⟨w11,a20,hw11,by simp [AU]⟩
 | r::l,w11,f,a20,hw11,hl,h=>by
  have hrl:=hl r (.head _)
  let σ1:VL:=HN w B own RV wd RD Ps N T F w11 a12 (sv (vn c)) a14 a16 a17 (sv (vb L)) (sv (vb f)) (sv (DV r))
  have t1:VT (AA (n+3)) (.cmp .LtE (.call (.gl 120) [.loc 20]) (.loc 13)) (VE (AA (n+3)) (.cmp .LtE (.call (.gl 120) [.loc 20]) (.loc 13))) σ1 g=some (decide (BY r≤c),g):=AK (x:=vn (BY r)) (y:=vn c) (AH rfl rfl (vs:=[DV r]) rfl (Pm (n:=n+1) (by omega))) rfl (Lq (by rw [decide_eq_decide];omega))
  have t2:VT (AA (n+3)) (.cmp .GtE (.sub (.loc 20) (.int 1)) (.int 0)) (VE (AA (n+3)) (.cmp .GtE (.sub (.loc 20) (.int 1)) (.int 0))) σ1 g=some (decide (0≤r.tail),g):=AK (x:=vi r.tail) (y:=vi 0) rfl rfl (EA rfl)
  have t3:VT (AA (n+3)) (.cmp .LtE (.loc 13) (.call (.gl 1) [.sub (.loc 20) (.int 0)])) (VE (AA (n+3)) (.cmp .LtE (.loc 13) (.call (.gl 1) [.sub (.loc 20) (.int 0)]))) σ1 g=some (decide (c≤r.pl.length),g):=AK (x:=vn c) (y:=vn r.pl.length) rfl (BH rfl rfl (vs:=[.lst (r.pl.map dE)]) (by rfl) ((HM (by simp;omega)).trans (by rw [List.length_map]))) (Lq (by rw [decide_eq_decide];omega))
  have t23:VT (AA (n+3)) (.bop .Or [.cmp .GtE (.sub (.loc 20) (.int 1)) (.int 0),.cmp .LtE (.loc 13) (.call (.gl 1) [.sub (.loc 20) (.int 0)])]) (VE (AA (n+3)) (.bop .Or [.cmp .GtE (.sub (.loc 20) (.int 1)) (.int 0),.cmp .LtE (.loc 13) (.call (.gl 1) [.sub (.loc 20) (.int 0)])])) σ1 g=some (decide (0≤r.tail)||decide (c≤r.pl.length),g):=by
   cases hz:decide (0≤r.tail) with
   | true=>rw [hz] at t2;exact G2 t2
   | false =>
    rw [hz] at t2
    refine Bm t2 ?_
    rw [Bool.false_or]
    cases hy:decide (c≤r.pl.length) with
    | true=>rw [hy] at t3;exact G2 t3
    | false=>rw [hy] at t3;exact Bm t3 EW
  have tc:VT (AA (n+3)) (.bop .And [.cmp .LtE (.call (.gl 120) [.loc 20]) (.loc 13),.bop .Or [.cmp .GtE (.sub (.loc 20) (.int 1)) (.int 0),.cmp .LtE (.loc 13) (.call (.gl 1) [.sub (.loc 20) (.int 0)])]]) (VE (AA (n+3)) (.bop .And [.cmp .LtE (.call (.gl 120) [.loc 20]) (.loc 13),.bop .Or [.cmp .GtE (.sub (.loc 20) (.int 1)) (.int 0),.cmp .LtE (.loc 13) (.call (.gl 1) [.sub (.loc 20) (.int 0)])]])) σ1 g=some (P7 r c,g):=by
   unfold P7
   cases hz:decide (BY r≤c) with
   | false=>rw [hz] at t1;exact A6 t1
   | true =>
    rw [hz] at t1
    refine A5 t1 ?_
    rw [Bool.true_and]
    cases hy:(decide (0≤r.tail)||decide (c≤r.pl.length)) with
    | true=>rw [hy] at t23;exact A5 t23 DQ
    | false=>rw [hy] at t23;exact A6 t23
  have W7:fz (locs (.bop .And [.cmp .LtE (.call (.gl 120) [.loc 20]) (.loc 13),.bop .Or [.cmp .GtE (.sub (.loc 20) (.int 1)) (.int 0),.cmp .LtE (.loc 13) (.call (.gl 1) [.sub (.loc 20) (.int 0)])]])) σ1=σ1:=rfl
  cases hok:P7 r c with
  | false =>
   rw [hok] at tc
   refine oEEA (G8 (a12:=a12) (a14:=a14) (a16:=a16) (a17:=a17) hc hw l w11 f (sv (DV r)) hw11 (fun d hd=>hl d (.tail _ hd)) fun r' hr'=>h r' (.tail _ hr')) fun w11' a20' q1 q2=>?_
   refine ⟨w11',a20',q1,Ab (σ1:=σ1) rfl (AD (Ag (σ0:=σ1) W7 tc AG) AG) ?_⟩
   rw [q2];simp [hok]
  | true =>
   rw [hok] at tc
   refine oA (h r (.head _) hok) fun hL heq=>?_
   subst hL
   refine oEEA (G8 (L:=true) (a12:=a12) (a14:=a14) (a16:=a16) (a17:=a17) hc hw l (sv (.lst (ws.map vn))) true (sv (DV r)) (.inr rfl) (fun d hd=>hl d (.tail _ hd)) fun r' hr'=>h r' (.tail _ hr')) fun w11' a20' q1 q2=>?_
   let σ2:VL:=HN w B own RV wd RD Ps N T F w11 a12 (sv (vn c)) a14 a16 a17 (sv (vb true)) (sv (vb true)) (sv (DV r))
   let σ3:VL:=HN w B own RV wd RD Ps N T F (sv (.lst (ws.map vn))) a12 (sv (vn c)) a14 a16 a17 (sv (vb true)) (sv (vb true)) (sv (DV r))
   have fz2:fz (locs (.bop .Or [.not (.loc 18),.cmp .NotEq (.comp (.call (.gl 118) [.loc 20,.loc 25]) (.one 25) (.call (.gl 7) [.loc 13]) (.bool true)) (.slTo (.loc 11) (.loc 13))])) σ2=σ3:=by
    rcases hw11 with rfl | rfl<;>rfl
   have ecomp:VE (AA (n+3)) (.comp (.call (.gl 118) [.loc 20,.loc 25]) (.one 25) (.call (.gl 7) [.loc 13]) (.bool true)) σ3 g=some (.lst (((ws.take c).map fun a:Nat=>(a:Int)).map vi),g):=by
    refine BO (w:=.imm (.rng 0 c)) (g1:=g) (its:=(List.range' 0 c).map vn) (BH rfl rfl (vs:=[vn c]) rfl rfl) (A2 (by omega)) ?_
    have hcp:=Bl (elt:=VE (AA (n+3)) (.call (.gl 118) [.loc 20,.loc 25])) (cond:=VT (AA (n+3)) (.bool true) (VE (AA (n+3)) (.bool true))) (t:=.one 25) (σ:=σ3) (g:=g) (fun _=>true) (fun i:Nat=>vi (EL r i)) vn (List.range' 0 c) [] (by simp;omega) fun i hi=>⟨σ3.set 25 (sv (vn i)),rfl,rfl,fun _=>AH rfl rfl (vs:=[DV r,vn i]) rfl (XW (by omega) i)⟩
    refine hcp.trans ?_
    have hf:(List.range' 0 c).filter (fun _=>true)=List.range' 0 c:=List.filter_eq_self.mpr fun _ _=>rfl
    have hle:(List.range' 0 c).map (fun i:Nat=>vi (EL r i))=((ws.take c).map fun a:Nat=>(a:Int)).map vi:=by
     refine List.ext_getElem? fun i=>?_
     rw [List.getElem?_map,List.getElem?_map,List.getElem?_map,List.getElem?_take]
     by_cases hi:i<c
     ·rw [if_pos hi,List.getElem?_range' hi]
      have hwi:ws[i]?=some (ws[i]'(by omega)):=List.getElem?_eq_getElem (by omega)
      have:=heq i hi
      rw [hwi] at this
      rw [hwi]
      simp only [Option.map_some,Nat.zero_add,Nat.one_mul]
      rw [this];rfl
     ·rw [if_neg hi]
      have:(List.range' 0 c)[i]?=none:=List.getElem?_eq_none (by simp;omega)
      rw [this];rfl
    rw [hf,List.nil_append,hle]
   have esl:VE (AA (n+3)) (.slTo (.loc 11) (.loc 13)) σ3 g=some (.lst (((ws.take c).map fun a:Nat=>(a:Int)).map vi),g):=by
    rw [show ((ws.take c).map fun a:Nat=>(a:Int)).map vi=(ws.map vn).take c by rw [List.map_map,←List.map_take];rfl]
    exact YM (x:=.lst (ws.map vn)) (g1:=g) (y:=vn c) rfl rfl (if_pos ⟨by omega,by omega,by rw [List.length_map];omega⟩)
   have tn:VT (AA (n+3)) (.bop .Or [.not (.loc 18),.cmp .NotEq (.comp (.call (.gl 118) [.loc 20,.loc 25]) (.one 25) (.call (.gl 7) [.loc 13]) (.bool true)) (.slTo (.loc 11) (.loc 13))]) (VE (AA (n+3)) (.bop .Or [.not (.loc 18),.cmp .NotEq (.comp (.call (.gl 118) [.loc 20,.loc 25]) (.one 25) (.call (.gl 7) [.loc 13]) (.bool true)) (.slTo (.loc 11) (.loc 13))])) σ3 g=some (false,g):=by
    refine Bm (v_not (b:=true) (by rfl)) (Bm (AK ecomp esl ?_) EW)
    show (YK _ _).map (!·)=_
    exact (congrArg (Option.map (!·)) (AJ (CC _) (Bz (CC _)))).trans (by simp)
   refine ⟨w11',a20',q1,Ab (σ1:=σ1) (σ2:=σ3) (g2:=g) rfl (AD (σ1:=σ3) (g1:=g) (Ag (σ0:=σ1) W7 tc (AD (σ1:=σ2) (g1:=g) (AO (σ0:=σ1) (w:=vb true) (g1:=g) rfl rfl rfl) (AD (Ag (σ0:=σ3) fz2 tn AG) AG))) AG) ?_⟩
   refine q2.trans ?_
   simp [hok]
end
theorem QX {α:Type} {elt:VL→G→Option (VV×G)} {cond:VL→G→Option (Bool×G)} {t:PT} {σ:VL} {g:G} (f enc:α→VV) (xs:List α) (hl:xs.length≤1000) (h:∀ x∈xs,∃ σ',B3 t (enc x) σ=some σ'∧cond σ' g=some (true,g)∧elt σ' g=some (f x,g)) :
  BQ elt cond t σ (xs.map enc) [] g=some (xs.map f,g):=by
 have:=Bl (elt:=elt) (cond:=cond) (t:=t) (σ:=σ) (g:=g) (fun _=>true) f enc xs [] (by simp;omega) fun x hx=>by
  refine oEAA (h x hx) fun σ' h1 h2 h3=>?_
  exact ⟨σ',h1,h2,fun _=>h3⟩
 have hf:xs.filter (fun _=>true)=xs:=List.filter_eq_self.mpr fun _ _=>rfl
 rw [hf,List.nil_append] at this
 exact this
section
variable {n:Nat} {w:Bool} {B own:PV} {RV wd:VV} {Ps rds:List Dt} {g:G}
noncomputable abbrev ZN:List PS:=[.assign 18 (.bop .And [.cmp .LtE (.loc 7) (.loc 13),.bop .Or [.loc 9,.cmp .LtE (.loc 13) (.loc 8)]]),.assign 19 (.bool false),.loop (.one 20) (.loc 10) UY,.ite (.cmp .NotEq (.loc 19) (.loc 18)) [.ret (.bool false)] []]
theorem count_loop (ok:MI w Ps rds) {a12 a14 a16 a17:Option VS} {ws:List Nat} (hws:ws=(List.range' 0 (TE Ps+2)).map (want Ps)) (hT:TE Ps≤50):∀ (c k:Nat) (w11 a13 a18 a19 a20:Option VS),k+c=TE Ps+3→(w11=some (.own (ws.map vn))∨w11=sv (.lst (ws.map vn))) →
  ∃ w11' a13' a18' a19' a20',(w11'=some (.own (ws.map vn))∨w11'=sv (.lst (ws.map vn)))∧AU (Bv (AA (n+3)) ZN) (.one 13) ((List.range' k c).map vn) (HN w B own RV wd (.lst (rds.map DV)) Ps (NE Ps) (TE Ps) (FE Ps) w11 a12 a13 a14 a16 a17 a18 a19 a20) g=some (.next,HN w B own RV wd (.lst (rds.map DV)) Ps (NE Ps) (TE Ps) (FE Ps) w11' a12 a13' a14 a16 a17 a18' a19' a20',g)
 | 0,k,w11,a13,a18,a19,a20,_,hw=>⟨w11,a13,a18,a19,a20,hw,BA⟩
 | c+1,k,w11,a13,a18,a19,a20,hk,hw=>by
  have hwl:ws.length=TE Ps+2:=by rw [hws];simp
  have hone:=ok.one k (by omega)
  refine oEEA (G8 (n:=n) (w:=w) (B:=B) (own:=own) (RV:=RV) (wd:=wd) (RD:=.lst (rds.map DV)) (Ps:=Ps) (g:=g) (N:=NE Ps) (T:=TE Ps) (F:=FE Ps) (ws:=ws) (c:=k) (L:=BW Ps k) (a12:=a12) (a14:=a14) (a16:=a16) (a17:=a17) (by omega) (by omega) rds w11 false a20 hw ok.rl fun r hr hok=>by
   refine ⟨(hone.1 r hr hok).1,fun i hi=>?_⟩
   rw [(hone.1 r hr hok).2 i hi,hws,List.getElem?_map,List.getElem?_range' (by omega)]
   simp) fun w1 b20 hw1 q1=>?_
  rw [Bool.false_or] at q1
  have hfl:(rds.any fun r=>P7 r k)=BW Ps k:=by
   rw [Bool.eq_iff_iff,List.any_eq_true]
   exact ⟨fun ⟨r,hr,h⟩=>(hone.1 r hr h).1,fun h=>hone.2 h⟩
  rw [hfl] at q1
  refine oEEEEEA (count_loop ok (a12:=a12) (a14:=a14) (a16:=a16) (a17:=a17) hws hT c (k+1) w1 (sv (vn k)) (sv (vb (BW Ps k))) (sv (vb (BW Ps k))) b20 (by omega) hw1) fun w11' a13' a18' a19' a20' z1 z2=>?_
  refine ⟨w11',a13',a18',a19',a20',z1,?_⟩
  rw [List.range'_succ,List.map_cons]
  let X:Option VS→Option VS→Option VS→Option VS→VL:=fun p q r s=>HN w B own RV wd (.lst (rds.map DV)) Ps (NE Ps) (TE Ps) (FE Ps) p a12 (sv (vn k)) a14 a16 a17 q r s
  refine Ab (σ1:=X w11 a18 a19 a20) (σ2:=X w1 (sv (vb (BW Ps k))) (sv (vb (BW Ps k))) b20) (g2:=g) rfl (AD (σ1:=X w11 (sv (vb (BW Ps k))) a19 a20) (g1:=g) ?_ (AD (σ1:=X w11 (sv (vb (BW Ps k))) (sv (vb false)) a20) (g1:=g) (AO (w:=vb false) (g1:=g) rfl rfl rfl) (AD (σ1:=X w1 (sv (vb (BW Ps k))) (sv (vb (BW Ps k))) b20) (g1:=g) ?_ (AD ?_ AG)))) z2
  ·refine AO (σ0:=X w11 a18 a19 a20) rfl rfl (QR (CM (x:=vn (NE Ps)) (y:=vn k) rfl rfl (Lq (by rw [decide_eq_decide];omega))) (Zi rfl (CM (x:=vn k) (y:=vn (TE Ps)) rfl rfl (Lq (by rw [decide_eq_decide];omega)))))
  ·show AU _ _ _ _ _=_
   exact q1
  ·refine Ag (σ0:=X w1 (sv (vb (BW Ps k))) (sv (vb (BW Ps k))) b20) (b:=false) rfl (AK (x:=vb (BW Ps k)) (y:=vb (BW Ps k)) (g1:=g) (g2:=g) rfl rfl ?_) AG
   cases BW Ps k<;>rfl
theorem Mh {w11 a12 a13 a16 a17 a18 a19 a20:Option VS}:∀ (l:List Nat) (a14:Option VS),(∀ j∈l,AA (n+3) (.fn 63) [.tab,.dct (AZ w),vn j,RV,.imm own] g=some (vb true,g)) →
  ∃ a14',AU (Bv (AA (n+3)) [.ite (.not (.call (.gl 122) [.loc 0,.loc 1,.loc 14,.loc 4,.loc 5])) [.ret (.bool false)] []]) (.one 14) (l.map vn) (HN w B own RV wd (.lst (rds.map DV)) Ps (NE Ps) (TE Ps) (FE Ps) w11 a12 a13 a14 a16 a17 a18 a19 a20) g=some (.next,HN w B own RV wd (.lst (rds.map DV)) Ps (NE Ps) (TE Ps) (FE Ps) w11 a12 a13 a14' a16 a17 a18 a19 a20,g)
 | [],a14,_=>⟨a14,BA⟩
 | j::l,a14,h=>by
  refine oE (Mh (w11:=w11) (a12:=a12) (a13:=a13) (a16:=a16) (a17:=a17) (a18:=a18) (a19:=a19) (a20:=a20) l (sv (vn j)) fun x hx=>h x (.tail _ hx)) fun a14' q=>?_
  let σ1:VL:=HN w B own RV wd (.lst (rds.map DV)) Ps (NE Ps) (TE Ps) (FE Ps) w11 a12 a13 (sv (vn j)) a16 a17 a18 a19 a20
  refine ⟨a14',Ab (σ1:=σ1) (σ2:=σ1) (g2:=g) rfl (AD (Ag (σ0:=σ1) (b:=false) rfl (v_not (b:=true) (Jp (w:=vb true) rfl (AH rfl rfl (vs:=[.tab,.dct (AZ w),vn j,RV,.imm own]) rfl (h j (.head _))) rfl)) AG) AG) q⟩
end
theorem Tk {Ps:List Dt} (h:Ps≠[]):decide (0≤FM (Ps.map Dt.tail))=FE Ps:=by
 refine oA (FG (Ps.map Dt.tail) (by simpa using h)) fun h1 h2=>?_
 unfold FE
 rw [Bool.eq_iff_iff,decide_eq_true_iff,List.any_eq_true]
 constructor
 ·intro h0
  refine oEA (mQ h1) fun d hd e=>?_
  exact ⟨d,hd,decide_eq_true (by rw [e];exact h0)⟩
 ·refine fun z3=>oEA z3 fun d hd h0=>?_
  have:=h2 _ (List.mem_map_of_mem hd)
  have:=of_decide_eq_true h0
  omega
theorem VG {n:Nat} {w:Bool} {own:PV} {g:G} {Ps:List Dt} {bs:List (Nat×Dt)} {RV:VV} (ok:MI w Ps (bs.map (·.2))) (ho:∃ l,own=.tup l) (hread:∀ b∈bs,AA (n+3) (.fn 62) [.tab,.dct (AZ w),vn b.1] g=some (DV b.2,g))
  (hgive:∀ b∈bs,AA (n+3) (.fn 63) [.tab,.dct (AZ w),vn b.1,RV,.imm own] g=some (vb true,g)) :
  AA (n+4) (.fn 64) [.tab,.dct (AZ w),.imm (.tup ((bs.map (·.1)).map fun j:Nat=>PV.int j)),.lst (Ps.map DV),RV,.imm own,vi (mk w)] g=some (vb true,g):=by
 have hT:TE Ps≤50:=Iz fun a ha=>by
  refine oEA (mQ ha) fun d hd z0=>?_;subst z0
  exact ok.pl d hd
 have hNT:∀ d∈Ps,d.pl.length≤TE Ps:=fun d hd=>JD (List.mem_map_of_mem hd)
 let B:PV:=.tup ((bs.map (·.1)).map fun j:Nat=>PV.int j)
 let ws:=(List.range' 0 (TE Ps+2)).map (want Ps)
 let RD:VV:=.lst ((bs.map (·.2)).map DV)
 have hpn:(Ps.map fun d=>(BY d:Int))≠[]:=by simpa using ok.ne
 have hbn:bs.length≤50:=by have:=ok.rn;simpa using this
 have start:Rt (AA (n+3)) (DE.body.drop 5) (HN w B own RV (vi (mk w)) RD Ps (NE Ps) (TE Ps) (FE Ps) (some (.own [])) none none none none none none none none) g (vb true) g→AA (n+4) (.fn 64) [.tab,.dct (AZ w),.imm B,.lst (Ps.map DV),RV,.imm own,vi (mk w)] g=some (vb true,g):=by
  intro hv
  let s0:List (Option VS)→VL:=fun l=>[sv .tab,sv (.dct (AZ w)),sv (.imm B),sv (.lst (Ps.map DV)),sv RV,sv (.imm own),sv (vi (mk w))]++l++[none,none,none,none,none,none,none,none,none,none,none,none,none,none,none,none]
  refine AX (σ:=s0 [none,none,none,none]) rfl rfl (by decide) ?_
  refine AF (σ0:=s0 [none,none,none,none]) (w:=vn (NE Ps)) (g1:=g) (AE rfl) rfl (BH rfl rfl (vs:=[.lst ((Ps.map fun d=>(BY d:Int)).map vi)]) (AB (BO (w:=.lst (Ps.map DV)) (g1:=g) (its:=Ps.map DV) rfl rfl ((QX (fun d=>vn (BY d)) DV Ps (by have:=ok.pn;omega) fun d hd=>⟨_,rfl,rfl,AH rfl rfl (vs:=[DV d]) rfl (Pm (n:=n+1) (by have:=ok.pl d hd;omega))⟩).trans (by rw [List.map_map];rfl))) AR) ?_) ?_
  ·rw [PZ hpn (by simp;have:=ok.pn;omega)]
   have:=JA (Ps.map BY) (by simpa using ok.ne)
   rw [List.map_map] at this
   show some (vi (FM (Ps.map ((fun a:Nat=>(a:Int))∘BY))))=_
   rw [this];rfl
  refine AF (σ0:=s0 [sv (vn (NE Ps)),none,none,none]) (w:=vn (TE Ps)) (g1:=g) (AE rfl) rfl (BH rfl rfl (vs:=[.lst ((Ps.map fun d=>(d.pl.length:Int)).map vi)]) (AB (BO (w:=.lst (Ps.map DV)) (g1:=g) (its:=Ps.map DV) rfl rfl ((QX (fun d=>vn d.pl.length) DV Ps (by have:=ok.pn;omega) fun d hd=>⟨_,rfl,rfl,BH rfl rfl (vs:=[.lst (d.pl.map dE)]) (by rfl) ((HM (by have:=ok.pl d hd;simp;omega)).trans (by rw [List.length_map]))⟩).trans (by rw [List.map_map];rfl))) AR) ?_) ?_
  ·rw [PZ (by simpa using ok.ne) (by simp;have:=ok.pn;omega)]
   have:=JA (Ps.map fun d=>d.pl.length) (by simpa using ok.ne)
   rw [List.map_map] at this
   show some (vi (FM (Ps.map ((fun a:Nat=>(a:Int))∘fun d:Dt=>d.pl.length))))=_
   rw [this];rfl
  refine AF (σ0:=s0 [sv (vn (NE Ps)),sv (vn (TE Ps)),none,none]) (w:=vb (FE Ps)) (g1:=g) (AE rfl) rfl (CM (x:=vi (FM (Ps.map Dt.tail))) (y:=vi 0) (BH rfl rfl (vs:=[.lst ((Ps.map Dt.tail).map vi)]) (AB (BO (w:=.lst (Ps.map DV)) (g1:=g) (its:=Ps.map DV) rfl rfl ((QX (fun d=>vi d.tail) DV Ps (by have:=ok.pn;omega) fun d hd=>⟨_,rfl,rfl,by rfl⟩).trans (by rw [List.map_map];rfl))) AR) (PZ (by simpa using ok.ne) (by simp;have:=ok.pn;omega))) rfl (EA (Tk ok.ne))) ?_
  refine AF (σ0:=s0 [sv (vn (NE Ps)),sv (vn (TE Ps)),sv (vb (FE Ps)),none]) (w:=RD) (g1:=g) (AE rfl) rfl (BO (w:=.imm B) (g1:=g) (its:=bs.map fun b=>vn b.1) rfl ?_ ((QX (fun b=>DV b.2) (fun b:Nat×Dt=>vn b.1) bs (by omega) fun b hb=>⟨_,rfl,rfl,AH rfl rfl (vs:=[.tab,.dct (AZ w),vn b.1]) rfl (hread b hb)⟩).trans (by rw [List.map_map];rfl))) ?_
  ·show some ((((bs.map (·.1)).map fun j:Nat=>PV.int j)).map VV.imm)=_
   rw [List.map_map,List.map_map];rfl
  exact B5 (σ0:=HN w B own RV (vi (mk w)) RD Ps (NE Ps) (TE Ps) (FE Ps) none none none none none none none none none) (AE rfl) rfl hv
 refine start ?_
 refine oEEE (IO (n:=n+1) (w:=w) (B:=B) (own:=own) (RV:=RV) (wd:=vi (mk w)) (RD:=RD) (Ps:=Ps) (g:=g) (N:=NE Ps) (T:=TE Ps) (F:=FE Ps) ok.pl (TE Ps+2) 0 [] none none none (by simp;omega)) fun b12 b16 b17 w1=>?_
 rw [List.nil_append] at w1
 refine oEEEEEA (count_loop (n:=n) (w:=w) (B:=B) (own:=own) (RV:=RV) (wd:=vi (mk w)) (g:=g) ok (a12:=b12) (a14:=none) (a16:=b16) (a17:=b17) (ws:=ws) rfl hT (TE Ps+3) 0 (some (.own (ws.map vn))) none none none none (by omega) (.inl rfl)) fun x11 c13 c18 c19 c20 hx11 w2=>?_
 refine oE (Mh (n:=n) (w:=w) (B:=B) (own:=own) (RV:=RV) (wd:=vi (mk w)) (Ps:=Ps) (rds:=bs.map (·.2)) (g:=g) (w11:=x11) (a12:=b12) (a13:=c13) (a16:=b16) (a17:=b17) (a18:=c18) (a19:=c19) (a20:=c20) (bs.map (·.1)) none fun j hj=>by
  obtain ⟨b,hb,rfl⟩:=mQ hj
  exact hgive b hb) fun d14 w3=>?_
 refine Ai (σ0:=HN w B own RV (vi (mk w)) RD Ps (NE Ps) (TE Ps) (FE Ps) (some (.own [])) none none none none none none none none) (w:=.imm (.rng 0 ((TE Ps+2:Nat):Int))) (g1:=g) rfl (BH rfl rfl (vs:=[vn (TE Ps+2)]) (AB (Aj (x:=vn (TE Ps)) (y:=vi 2) (g1:=g) (g2:=g) rfl rfl rfl) AR) rfl) (A2 (by omega)) w1 ?_
 refine Ai (σ0:=HN w B own RV (vi (mk w)) RD Ps (NE Ps) (TE Ps) (FE Ps) (some (.own (ws.map vn))) b12 none none b16 b17 none none none) (w:=.imm (.rng 0 ((TE Ps+3:Nat):Int))) (g1:=g) rfl (BH rfl rfl (vs:=[vn (TE Ps+3)]) (AB (Aj (x:=vn (TE Ps)) (y:=vi 3) (g1:=g) (g2:=g) rfl rfl rfl) AR) rfl) (A2 (by omega)) w2 ?_
 let σ5:Option VS→VL:=fun a14=>HN w B own RV (vi (mk w)) RD Ps (NE Ps) (TE Ps) (FE Ps) x11 b12 c13 a14 b16 b17 c18 c19 c20
 refine Ai (σ0:=σ5 none) (w:=.imm B) (g1:=g) (its:=(bs.map (·.1)).map vn) rfl rfl ?_ w3 ?_
 ·show some ((((bs.map (·.1)).map fun j:Nat=>PV.int j)).map VV.imm)=_
  rw [←Tl]
 cases w with
 | true=>exact Cm (σ0:=σ5 d14) rfl (by rfl) (AS (σ0:=σ5 d14) rfl (by rfl))
 | false =>
  refine As (σ0:=σ5 d14) rfl (by rfl) ?_
  have hcnt:=ok.cnt.resolve_left (by simp)
  let ms:=(List.range' (NE Ps) (TE Ps-NE Ps)).filter fun i=>decide (want Ps i&&&1=0)
  have hNl:NE Ps≤TE Ps:=by
   refine Iz fun a ha=>?_
   refine oEA (mQ ha) fun d hd z0=>?_;subst z0
   have h1:=hNT d hd
   have h2:BY d≤d.pl.length:=by
    have tr:∀ k,DS d k≤k:=fun k=>by
     induction k with
     | zero=>exact Nat.le_refl _
     | succ k ih=>unfold DS;split<;>omega
    have:=tr (Aw (d.pl.map (·.2)))
    have:=Gg (d.pl.map (·.2))
    simp at this
    unfold BY;omega
   omega
  have ew:∀ (i:Nat) (x26:Option VS),i<TE Ps+2→VE (AA (n+3)) (.sub (.loc 11) (.loc 26)) ((σ5 d14).set 26 (sv (vn i))) g=some (vn (want Ps i),g):=by
   intro i x26 hi
   have hsub:GG g (.lst (ws.map vn)) (vn i)=some (vn (want Ps i)):=E5 (by simp [ws];omega) (by simp only [ws,List.getElem?_map];rw [List.getElem?_range' (by omega)];simp)
   rcases hx11 with rfl | rfl
   ·exact UH (o:=.lst (ws.map vn)) (g1:=g) (k:=vn i) rfl rfl hsub
   ·exact Af rfl (w:=.lst (ws.map vn)) (g1:=g) (k:=vn i) rfl rfl hsub
  have hcomp:=Bl (elt:=VE (AA (n+3)) (.loc 26)) (cond:=VT (AA (n+3)) (.cmp .Eq (.bin .BitAnd (.sub (.loc 11) (.loc 26)) (.int 1)) (.int 0)) (VE (AA (n+3)) (.cmp .Eq (.bin .BitAnd (.sub (.loc 11) (.loc 26)) (.int 1)) (.int 0)))) (t:=.one 26) (σ:=σ5 d14) (g:=g) (fun i=>decide (want Ps i&&&1=0)) vn vn (List.range' (NE Ps) (TE Ps-NE Ps)) [] (by simp;omega) fun i hi=>by
   have hi':=List.mem_range'.mp hi
   refine oEA hi' fun a ha e=>?_
   refine ⟨(σ5 d14).set 26 (sv (vn i)),rfl,AK (x:=vn (want Ps i&&&1)) (y:=vi 0) (Aj (x:=vn (want Ps i)) (y:=vn 1) (g1:=g) (g2:=g) (ew i none (by omega)) rfl (QZ _ _)) rfl (Ak (by rw [decide_eq_decide];omega)),fun _=>rfl⟩
  rw [List.nil_append] at hcomp
  let σ6:VL:=(σ5 d14).set 15 (sv (.lst (ms.map vn)))
  refine AF (σ0:=σ5 d14) (w:=.lst (ms.map vn)) (g1:=g) rfl rfl (BO (w:=.imm (.rng (NE Ps) (TE Ps))) (g1:=g) (its:=(List.range' (NE Ps) (TE Ps-NE Ps)).map vn) (BH rfl rfl (vs:=[vn (NE Ps),vn (TE Ps)]) rfl rfl) (DB (by omega) (by omega)) hcomp) ?_
  have hms:ms.length≤100:=Nat.le_trans (List.length_filter_le _ _) (by simp;omega)
  have hany:decide (0<ms.length)=(List.range' (NE Ps) (TE Ps-NE Ps)).any fun i=>decide (want Ps i&&&1=0):=by
   rw [Bool.eq_iff_iff,decide_eq_true_iff,List.length_pos_iff,List.any_eq_true]
   constructor
   ·intro h
    refine oE (List.exists_mem_of_ne_nil _ h) fun x hx=>?_
    exact ⟨x,(List.mem_filter.mp hx).1,(List.mem_filter.mp hx).2⟩
   ·refine fun z3=>oEA z3 fun x hx h e=>?_
    have:x∈ms:=List.mem_filter.mpr ⟨hx,h⟩
    rw [e] at this;cases this
  refine AS (σ0:=σ6) rfl (CM (x:=vn bs.length) (y:=vn bs.length) (g1:=g) (g2:=g) (BH rfl rfl (vs:=[.imm B]) rfl ((L6 (by simp;omega)).trans (by simp))) (A9 (t:=decide (0<ms.length)) (g1:=g) (AK (x:=vn ms.length) (y:=vi 0) (g1:=g) (g2:=g) (BH rfl rfl (vs:=[.lst (ms.map vn)]) rfl ((HM (by simp;omega)).trans (by rw [List.length_map]))) rfl (cmp_gt (by rw [decide_eq_decide];omega))) ?_) (Ak (decide_eq_true rfl)))
  rw [List.length_map,←hany] at hcnt
  rw [hcnt]
  cases decide (0<ms.length) with
  | true =>
   simp only [if_true]
   refine Aj (x:=vn (TE Ps-NE Ps)) (y:=vi 1) (g1:=g) (g2:=g) (Aj (x:=vn (TE Ps)) (y:=vn (NE Ps)) (g1:=g) (g2:=g) rfl rfl (Lz hNl)) rfl rfl
  | false=>rfl
theorem AA1:∀ {T F A E:Bool},(T=true→A=true)→(A=true→E=false→T=true∧F=true)→(T&&F||A&&E)=A:=by decide
theorem Uc {Ll:List Kn} (hu:Ll.all (fun K=>K 1)=false) {t c:Int} (hc:tp c=t) (ht:tp t=t) (h0:(c != 0&&c != 1)=true) (h0':(t != 0&&t != 1)=true):(A3 Ll t||A3 Ll c)=Ll.all fun K=>K 1||K c||K t:=by
 rw [Jq (c:=t) hu,ht,h0',Jq (c:=c) hu,hc,h0]
 refine oEA (List.all_eq_false.mp hu) fun K0 hK0 hk0=>?_
 refine AA1 (fun a=>List.all_eq_true.mpr fun K hK=>Zz (List.all_eq_true.mp a K hK)) fun a b=>?_
 have a':=fun K hK=>Zy (List.all_eq_true.mp a K hK) (List.any_eq_false.mp b K hK)
 exact ⟨List.all_eq_true.mpr a',List.any_eq_true.mpr ⟨K0,hK0,Zx hk0 (a' K0 hK0)⟩⟩
theorem Nn {K:Kn} (h:K 1=true):∀ i,i<11→BN K i=true:=fun i hi=>ED 1 (by decide) h (LQ i hi).2.1
theorem Jb {K:Kn} (h:K 0=true):∀ i,i<11→BN K i=true:=fun i hi=>ED 0 (by decide) h (LQ i hi).1
theorem F8 {Ll:List Kn} {f h:Kn→Bool} (e:∀ K∈Ll,f K=h K):Ll.all f=Ll.all h:=by
 rw [Bool.eq_iff_iff,List.all_eq_true,List.all_eq_true]
 exact ⟨fun x K hK=>by rw [←e K hK];exact x K hK,fun x K hK=>by rw [e K hK];exact x K hK⟩
theorem AA8:∀ {k t c:Bool},(false||(k||(t||(c||false))))=(k||c||t):=by decide
theorem AA9:∀ {k t:Bool},(false||(k||(t||false)))=(k||t||t):=by decide
theorem Zv {i:Nat} {t c:Int} (h:bl i=[0,1,t,c]∨(c=t∧bl i=[0,1,t])) {K:Kn} (h0:K 0=false):BN K i=(K 1||K c||K t):=by
 rw [bk]
 refine Or.elim h (fun h=>?_) fun z0=>oA z0 fun e h=>?_
 ·rw [h];show (K 0||_)=_;rw [h0];exact AA8
 ·rw [h,e];show (K 0||_)=_;rw [h0];exact AA9
theorem Rm {Ll:List Kn} (h0:∀ K∈Ll,K 0=false):∀ i,i<11→BN (A3 Ll) i=Ll.all fun K=>BN K i:=by
 intro i hi
 cases hu:Ll.all (fun K=>K 1) with
 | true=>exact (Nn (X7 hu) i hi).trans (List.all_eq_true.mpr fun K hK=>Nn (List.all_eq_true.mp hu K hK) i hi).symm
 | false =>
  have m0:A3 Ll 0=false:=Jq hu
  have m1:A3 Ll 1=false:=Jq hu
  rcases Nat.lt_succ_iff_lt_or_eq.mp hi with hi | e
  ·refine oEEAAAA (AA0 i hi) fun t c hc ht c0 t0 hb=>?_
   rw [Zv hb m0,m1,Bool.false_or,Bool.or_comm,Uc hu hc ht c0 t0]
   exact F8 fun K hK=>(Zv hb (h0 K hK)).symm
  ·rw [e,QY,m0,m1]
   exact hu.symm.trans (F8 fun K hK=>by rw [QY,h0 K hK];rfl)
theorem Fz {ss:List Sg} {i:Nat} {M:Kn} (h:Ah ss i=some M):∀ j,j<11→BN M j=(kinds ss i).all fun K=>BN K j:=by
 intro j hj
 unfold Ah at h
 split at h
 ·exact nO h
 ·split at h
  ·rename_i h1 h2
   rw [←Option.some.inj h,Jb (K:=fun a=>a==0) rfl j hj]
   symm
   rw [List.all_eq_true]
   intro K hK
   refine Jb ?_ j hj
   cases hk:K 0 with
   | true=>rfl
   | false =>
    exfalso
    have:K∈(kinds ss i).filter fun K=>!K 0:=List.mem_filter.mpr ⟨hK,by simp [hk]⟩
    rw [List.isEmpty_iff.mp h2] at this
    cases this
  ·rw [←Option.some.inj h,Rm (fun K hK=>by have:=(List.mem_filter.mp hK).2;simpa using this) j hj]
   rw [List.all_filter,Bool.eq_iff_iff,List.all_eq_true,List.all_eq_true]
   constructor
   ·intro x K hK
    have:=x K hK
    cases hk:K 0 with
    | true=>exact Jb hk j hj
    | false=>simpa [hk] using this
   ·intro x K hK
    simp [x K hK]
noncomputable def dP (s:Sg):Dt:=⟨s.pl.map fun p=>(Ap p.K,p.late),VQ s.rest⟩
theorem TO (s:Sg):A1 s=DV (dP s):=by
 unfold A1 DV dP
 rw [List.map_map];rfl
noncomputable def oI:Option Kn→Int
 | some K=>Ap K
 | none=>-1
theorem Tf:Ap (one 4)=1:=by decide
theorem PL (s:Sg) (i:Nat):EL (dP s) i=oI (s.at' i):=by
 unfold EL dP Sg.at'
 rw [List.getElem?_map]
 cases s.pl[i]? with
 | some p =>
  simp only [Option.map_some,oI,Jm]
  cases hl:p.late with
  | true =>
   simp only [if_true]
   rw [show YZ p.K=By (fun a=>p.K a||one 4 a) from rfl,Te,Tf]
  | false=>simp
 | none =>
  simp only [Option.map_none,VQ]
  cases s.rest.tail<;>rfl
theorem GE (a:Nat):decide (a&&&1536=512)=(a.testBit 9&&!a.testBit 10):=by
 rw [Bool.eq_iff_iff,decide_eq_true_iff]
 constructor
 ·intro h
  have h9:=congrArg (fun x=>Nat.testBit x 9) h
  have h10:=congrArg (fun x=>Nat.testBit x 10) h
  simp only [Nat.testBit_and] at h9 h10
  have e1:Nat.testBit 1536 9=true:=by decide
  have e2:Nat.testBit 1536 10=true:=by decide
  have e3:Nat.testBit 512 9=true:=by decide
  have e4:Nat.testBit 512 10=false:=by decide
  rw [e1,e3] at h9
  rw [e2,e4] at h10
  simp at h9 h10
  simp [h9,h10]
 ·intro h
  simp only [Bool.and_eq_true,Bool.not_eq_true'] at h
  refine Nat.eq_of_testBit_eq fun i=>?_
  rw [Nat.testBit_and]
  by_cases h9:i=9
  ·subst h9;rw [h.1];decide
  ·by_cases h10:i=10
   ·subst h10;rw [h.2];decide
   ·have:Nat.testBit 1536 i=false:=by
     have e:(1536:Nat)=2 ^ 9|||2 ^ 10:=by decide
     rw [e,Nat.testBit_or,Nat.testBit_two_pow,Nat.testBit_two_pow]
     simp;omega
    rw [this,Bool.and_false]
    have e:(512:Nat)=2 ^ 9:=by decide
    rw [e,Nat.testBit_two_pow]
    simp;omega
theorem R6 (K:Kn):BK ((Ap K:Nat):Int)=(!(K 0||K 1)&&K 3):=by
 unfold BK
 rw [Int.toNat_natCast,GE,A0,A0,Zw,QY]
 cases K 0<;>cases K 1<;>cases K 3<;>rfl
theorem U5 {K:Kn} (h:∀ a∈AI,By K a=K a):BK ((Ap K:Nat):Int)=K 3:=by
 rw [R6]
 cases h0:K 0 with
 | true=>rw [Oa h h0 3 (by decide)];rfl
 | false =>
  cases h1:K 1 with
  | true=>rw [OZ h h1 3 (by decide)];rfl
  | false=>simp
theorem LR (l m:List Bool):Aw (l++m)=if Aw m≠0 then l.length+Aw m else Aw l:=by
 induction l with
 | nil=>simp only [List.nil_append,List.length_nil,Nat.zero_add,Aw];split<;>simp_all
 | cons a l ih =>
  simp only [List.cons_append,Aw,ih,List.length_cons]
  by_cases h:Aw m=0
  ·simp [h]
  ·simp [h];omega
theorem RT {els:List Pl} (h2:els.length≤2) (hl:∀ p,els[0]?=some p→els.length=2→p.late=false):Aw (els.map Pl.late)=HV els:=by
 revert h2 hl
 generalize els=l
 revert l
 refine Wt (fun hl=>rfl) (fun _ _ _ a hl=>?_) fun _ _ _ a _ _ _ b hl=>?_
 ·cases a<;>rfl
 ·cases (hl _ rfl rfl:a=false)
  cases b<;>rfl
structure Fd (w:Bool) (g:G) (s:Sg):Prop where
 part:HQ w g s.fx s.rest
 nms:∀ p∈s.pl,∀ a∈AI,By p.K a=p.K a
 retm:(s.ret,s.RK)∈SZ w
theorem Fd.els2 {w:Bool} {g:G} {s:Sg} (h:Fd w g s):s.rest.els.length≤2∧∀ p,s.rest.els[0]?=some p→s.rest.els.length=2→p.late=false:=by
 cases hr:s.rest with
 | tup rt els tl =>
  refine Mr (h.part.hrest.tup _ _ _ hr) fun _ _ _ h4 h5=>?_
  exact ⟨h4,h5⟩
 | _=>exact ⟨by simp [Rest.els],fun p hp=>by simp [Rest.els] at hp⟩
theorem Fd.wneed {w:Bool} {g:G} {s:Sg} (h:Fd w g s):Aw ((dP s).pl.map (·.2))=Mine.V.wneed s:=by
 refine oA (h.els2) fun h2 hl=>?_
 have e:(dP s).pl.map (·.2)=s.fx.map Pl.late++s.rest.els.map Pl.late:=by
  unfold dP Sg.pl
  rw [List.map_map,←List.map_append];rfl
 rw [e,LR,RT h2 hl,List.length_map]
 unfold Mine.V.wneed
 by_cases h0:HV s.rest.els=0
 ·simp [h0]
 ·rw [if_pos h0,if_pos (by omega)]
theorem Xj {p:Pl} (h:∀ a∈AI,By p.K a=p.K a):∀ a∈AI,By (Jm p) a=Jm p a:=by
 unfold Jm
 split
 ·exact FB _
 ·exact h
theorem Fd.need {w:Bool} {g:G} {s:Sg} (h:Fd w g s):BY (dP s)=CI s:=by
 unfold BY CI
 rw [h.wneed]
 have hle:=IN s
 have key:∀ k,k≤s.pl.length→DS (dP s) k=IV s.at' k:=by
  intro k
  induction k with
  | zero=>intro _;rfl
  | succ k ih =>
   intro hk
   refine oEA (Qb s (i:=k) (by omega)) fun p h1 h2=>?_
   have:BK (EL (dP s) k)=T5 (s.at' k):=by
    rw [PL,h2]
    exact U5 (Xj (h.nms p (List.mem_of_getElem? h1)))
   unfold DS IV
   rw [this,ih (by omega)]
 exact key _ hle
theorem QC {l:List Nat} (h:0<I0 l):I0 l∈l:=by
 induction l with
 | nil=>simp [I0] at h
 | cons a l ih =>
  simp only [I0] at h ⊢
  by_cases hc:I0 l≤a
  ·rw [Nat.max_eq_left hc];exact .head _
  ·rw [Nat.max_eq_right (by omega)];exact .tail _ (ih (by omega))
theorem FC {l l':List Nat} (h:∀ a,a∈l↔a∈l'):I0 l=I0 l' :=
 Nat.le_antisymm (Iz fun a ha=>JD ((h a).mp ha)) (Iz fun a ha=>JD ((h a).mpr ha))
theorem JQ (f:Sg→Nat):∀ (ss:List Sg) (a:Nat),ss.foldl (fun a s=>max a (f s)) a=max a (I0 (ss.map f))
 | [],a=>(Nat.max_zero a).symm
 | s::ss,a=>(JQ f ss (max a (f s))).trans (Nat.max_assoc a (f s) _)
theorem N1 (ss:List Sg):NN ss=I0 (ss.map CI):=(JQ _ ss 0).trans (Nat.zero_max _)
theorem Kq (ss:List Sg):TT ss=I0 (ss.map fun s=>s.pl.length):=(JQ _ ss 0).trans (Nat.zero_max _)
theorem B7 {ss:List Sg} {i:Nat} {K:Kn}:K∈kinds ss i↔∃ s∈ss,s.at' i=some K:=List.mem_filterMap
theorem I8 {ss:List Sg} {i:Nat} {K:Kn} (h:K∈kinds ss i):∃ M,Ah ss i=some M:=by
 unfold Ah
 have:(kinds ss i).isEmpty=false:=by
  cases hk:kinds ss i with
  | nil=>rw [hk] at h;cases h
  | cons=>rfl
 rw [this]
 simp only [Bool.false_eq_true,if_false]
 split
 ·exact ⟨_,rfl⟩
 ·exact ⟨_,rfl⟩
theorem CJ {ss:List Sg} {i:Nat} (h:i<TT ss):∃ M,Ah ss i=some M:=by
 rw [Kq] at h
 have:=QC (l:=ss.map fun s=>s.pl.length) (by omega)
 refine oEA (mQ this) fun s hs e=>?_
 refine oEA (Qb s (i:=i) (by omega)) fun p h1 h2=>?_
 exact I8 (B7.mpr ⟨s,hs,h2⟩)
theorem Un {ss:List Sg} {s:Sg} (hs:s∈ss) {i:Nat} (h:TT ss≤i):s.at' i=s.rest.tail:=by
 have:s.pl.length≤TT ss:=by rw [Kq];exact JD (List.mem_map_of_mem hs)
 unfold Sg.at'
 rw [List.getElem?_eq_none (by omega)]
theorem NX {f h:Sg→Option Kn}:∀ (l:List Sg),(∀ s∈l,f s=h s)→l.filterMap f=l.filterMap h
 | [],_=>rfl
 | a::l,e=>by
  rw [List.filterMap_cons,List.filterMap_cons,e a (.head _),NX l fun s hs=>e s (.tail _ hs)]
theorem Ti {ss:List Sg} {i:Nat} (h:TT ss≤i):Ah ss i=Ah ss (TT ss):=by
 have:kinds ss i=kinds ss (TT ss):=by
  unfold kinds
  refine NX ss fun s hs=>?_
  rw [Un hs h,Un hs (Nat.le_refl _)]
 unfold Ah
 rw [this]
theorem I7 {ss:List Sg} (h:RR ss=true):∃ M,Ah ss (TT ss)=some M:=by
 unfold RR at h
 rw [List.any_eq_true] at h
 refine oEA h fun s hs ht=>?_
 refine oE (Option.isSome_iff_exists.mp ht) fun K hK=>?_
 exact I8 (B7.mpr ⟨s,hs,by rw [Un hs (Nat.le_refl _)];exact hK⟩)
theorem ML (i j:Nat):∀ (Ps:List Dt) (m:Nat),(Ps.foldl (Jg i) m).testBit j=(m.testBit j&&Ps.all fun d=>if 0≤EL d i then (EL d i).toNat.testBit j else true)
 | [],m=>by simp
 | d::Ps,m=>by
  simp only [List.foldl,List.all_cons]
  rw [ML i j Ps]
  unfold Jg
  split
  ·rw [Nat.testBit_and,Bool.and_assoc]
  ·simp
theorem IP {ss ss':List Sg} (hs:∀ s,s∈ss↔s∈ss') {i:Nat} {M:Kn} (h:Ah ss i=some M):want (ss'.map dP) i=Ap M:=by
 have hall:∀ j,((ss'.map dP).all fun d=>if 0≤EL d i then (EL d i).toNat.testBit j else true)=(kinds ss i).all fun K=>BN K j:=by
  intro j
  rw [Bool.eq_iff_iff,List.all_eq_true,List.all_eq_true]
  constructor
  ·intro x K hK
   refine oEA (B7.mp hK) fun s hss e=>?_
   have:=x (dP s) (List.mem_map_of_mem ((hs s).mp hss))
   rw [PL,e] at this
   rw [if_pos (show (0:Int)≤oI (some K) by show (0:Int)≤(Ap K:Nat);omega)] at this
   have this:(Ap K).testBit j=true:=this
   rw [A0] at this
   exact this
  ·intro x d hd
   refine oEA (mQ hd) fun s hss z0=>?_;subst z0
   rw [PL]
   cases e:s.at' i with
   | none=>simp [oI]
   | some K =>
    rw [if_pos (show (0:Int)≤oI (some K) by show (0:Int)≤(Ap K:Nat);omega)]
    show (Ap K).testBit j=true
    rw [A0]
    exact x K (B7.mpr ⟨s,(hs s).mpr hss,e⟩)
 refine Nat.eq_of_testBit_eq fun j=>?_
 unfold want
 rw [ML,hall,A0]
 by_cases hj:j<11
 ·rw [Fz h j hj]
  have:Nat.testBit 4095 j=true:=by
   have:j=0∨j=1∨j=2∨j=3∨j=4∨j=5∨j=6∨j=7∨j=8∨j=9∨j=10:=by omega
   rcases this with rfl | rfl | rfl | rfl | rfl | rfl | rfl | rfl | rfl | rfl | rfl<;>decide
  rw [this,Bool.true_and]
 ·rw [II M (by omega)]
  have:kinds ss i≠[]:=by
   intro e
   unfold Ah at h
   rw [e] at h
   simp at h
  refine oE (List.exists_mem_of_ne_nil _ this) fun K hK=>?_
  have:(kinds ss i).all (fun K=>BN K j)=false:=List.all_eq_false.mpr ⟨K,hK,by rw [II K (by omega)];simp⟩
  rw [this,Bool.and_false]
theorem Xx {a:Nat} (h:a.testBit 0=true):a|||1=a:=by
 refine Nat.eq_of_testBit_eq fun i=>?_
 rw [Nat.testBit_or]
 by_cases hi:i=0
 ·subst hi;rw [h];rfl
 ·have:Nat.testBit 1 i=false:=by
   have e:(1:Nat)=2 ^ 0:=rfl
   rw [e,Nat.testBit_two_pow]
   simp;omega
  rw [this,Bool.or_false]
theorem Hn (N:Nat):∀ T,N≤T→Aw ((List.range' 0 T).map fun k=>decide (N≤k))=N
 | 0,h=>by simp [Aw];omega
 | T+1,h=>by
  have e:List.range' 0 (T+1)=List.range' 0 T++[T]:=by rw [List.range'_concat];simp
  rw [e,List.map_append,List.map_cons,List.map_nil,JE]
  by_cases hN:N≤T
  ·rw [decide_eq_true hN,if_pos rfl];exact Hn N T hN
  ·rw [decide_eq_false hN]
   simp;omega
theorem J9 {f:Nat→Option Kn} {k:Nat}:∀ {n},IV f n=k+1→T5 (f k)=false
 | 0,h=>by simp [IV] at h
 | n+1,h=>by
  unfold IV at h
  split at h
  ·exact J9 h
  ·rename_i hv
   have:n=k:=by omega
   subst this
   simpa using hv
theorem MS (d:Dt):∀ n,DS d n≤n
 | 0=>Nat.le_refl _
 | n+1=>by
  have:=MS d n
  unfold DS
  split<;>omega
theorem MT {d:Dt} {N:Nat} (h:N=0∨BK (EL d (N-1))=false):∀ n,N≤n→N≤DS d n
 | 0,hn=>by omega
 | n+1,hn=>by
  unfold DS
  split
  ·rename_i hv
   by_cases hN:N=n+1
   ·subst hN
    rcases h with h | h
    ·omega
    ·rw [show n+1-1=n by omega] at h
     rw [h] at hv;exact nB hv
   ·exact MT h n (by omega)
  ·exact hn
section
variable {w:Bool} {own:PV} {g:G} {ss ss':List Sg}
theorem OP {p:Pl} (h:WK w p.K):WK w (Jm p):=by
 unfold Jm
 split
 ·exact h.or (K:=p.K) (L:=one 4) (by cases w<;>simp [WK,one])
 ·exact h
theorem Fd.plw {s:Sg} (h:Fd w g s):∀ p∈s.pl,WK w p.K:=by
 intro p hp
 unfold Sg.pl at hp
 rcases mA hp with hp | hp
 ·exact (h.part.hfx p hp).wk
 ·exact h.part.hels p hp
theorem V9 (hp:∀ s∈ss,Fd false g s) {i:Nat}:∀ K∈kinds ss i,K 3=false:=by
 intro K hK
 refine oEA (B7.mp hK) fun s hs e=>?_
 have hsp:=hp s hs
 unfold Sg.at' at e
 cases hpl:s.pl[i]? with
 | some p =>
  rw [hpl] at e
  have e:=Option.some.inj e
  have:=OP (hsp.plw p (List.mem_of_getElem? hpl))
  rw [e] at this
  simpa [WK] using this
 | none =>
  rw [hpl] at e
  rcases hsp.part.htail with h | h
  ·rw [h] at e
   have e:=Option.some.inj e
   rw [←e];rfl
  ·have:=h K e
   simpa [WK] using this
theorem R7 (hp:∀ s∈ss,Fd w g s) {M:Kn} (hN:0<NN ss) (h:Ah ss (NN ss-1)=some M):BK ((Ap M:Nat):Int)=false:=by
 have hv:BK ((Ap M:Nat):Int)=(BN M 9&&!BN M 10):=by
  unfold BK
  rw [Int.toNat_natCast,GE,A0,A0]
 rw [hv,Fz h 9 (by omega),Fz h 10 (by omega)]
 have b9:∀ K,BN K 9=(K 0||K 1||K 3):=Zw
 have b10:∀ K,BN K 10=(K 0||K 1):=QY
 cases w with
 | false =>
  have:((kinds ss (NN ss-1)).all fun K=>BN K 9)=(kinds ss (NN ss-1)).all fun K=>BN K 10:=F8 fun K hK=>by rw [b9,b10,V9 hp K hK,Bool.or_false]
  rw [this];simp
 | true =>
  have hmem:=QC (l:=ss.map CI) (by rw [←N1];exact hN)
  rw [←N1] at hmem
  refine oEA (mQ hmem) fun s hs e=>?_
  have hlt:NN ss-1<s.pl.length:=by
   have:=Mv s
   omega
  refine oEA (Qb s hlt) fun p h1 h2=>?_
  have hst:T5 (s.at' (NN ss-1))=false:=J9 (f:=s.at') (k:=NN ss-1) (n:=wneed s) (by have:CI s=NN ss:=e;unfold CI at this;omega)
  rw [h2] at hst
  have hw:=OP ((hp s hs).plw p (List.mem_of_getElem? h1))
  simp only [WK,if_true] at hw
  have h3:Jm p 3=false:=hst
  have:((kinds ss (NN ss-1)).all fun K=>BN K 9)=false:=List.all_eq_false.mpr ⟨Jm p,B7.mpr ⟨s,hs,h2⟩,by rw [b9,hw.1,hw.2,h3];simp⟩
  rw [this];rfl
noncomputable def I6 (ss:List Sg) (k:Nat):Kn:=(Ah ss k).getD fun _=>false
noncomputable def BM (ss:List Sg) (cnt mf:Nat) (last:Bool):Dt:=⟨(List.range' 0 cnt).map fun k=>(Ap (I6 ss k),decide (mf≤k)),if (last&&RR ss)=true then ((Ap (I6 ss (TT ss)):Nat):Int) else -1⟩
theorem Y6 {cnt mf:Nat} {last:Bool} {i:Nat} (hi:i<cnt):EL (BM ss cnt mf last) i=((Ap (I6 ss i)|||(if mf≤i then 1 else 0):Nat):Int):=by
 unfold EL BM
 simp only
 rw [List.getElem?_map,List.getElem?_range' hi]
 simp
theorem Y5 {cnt mf:Nat} {last:Bool} {i:Nat} (hi:cnt≤i):EL (BM ss cnt mf last) i=(BM ss cnt mf last).tail:=by
 unfold EL BM
 simp only
 rw [List.getElem?_eq_none (by simp;omega)]
theorem Dp {k:Nat} {M:Kn} (h:Ah ss k=some M):I6 ss k=M:=by unfold I6;rw [h];rfl
theorem Vt {cnt mf:Nat} {last:Bool} (hmf:mf≤cnt):BY (BM ss cnt mf last)=DS (BM ss cnt mf last) mf:=by
 unfold BY
 have:(BM ss cnt mf last).pl.map (·.2)=(List.range' 0 cnt).map fun k=>decide (mf≤k):=by
  unfold BM;rw [List.map_map];rfl
 rw [this,Hn mf cnt hmf]
theorem TF (hp:∀ s∈ss,Fd w g s) {cnt mf:Nat} {last:Bool} (h1:NN ss≤mf) (h2:mf≤cnt) (h3:cnt≤TT ss) (hu:∀ i,mf≤i→i<cnt→Rr (Ah ss i)=true) :
  NN ss≤BY (BM ss cnt mf last)∧BY (BM ss cnt mf last)≤mf∧∀ i,i<cnt→EL (BM ss cnt mf last) i=((Ap (I6 ss i):Nat):Int):=by
 have Ov:∀ i,i<cnt→EL (BM ss cnt mf last) i=((Ap (I6 ss i):Nat):Int):=by
  intro i hi
  rw [Y6 hi]
  split
  ·rename_i hm
   have:=hu i hm hi
   refine oE (CJ (ss:=ss) (i:=i) (by omega)) fun M hM=>?_
   rw [Dp hM]
   rw [hM] at this
   have hb:(Ap M).testBit 0=true:=by
    rw [A0,YU M]
    simp only [Rr] at this
    cases h0:M 0<;>cases h1:M 1<;>cases h4:M 4<;>simp_all
   rw [Xx hb]
  ·rw [Nat.or_zero]
 rw [Vt h2]
 refine ⟨MT ?_ mf h1,MS _ _,Ov⟩
 by_cases hN:NN ss=0
 ·exact .inl hN
 ·right
  have hlt:NN ss-1<cnt:=by omega
  rw [Ov _ hlt]
  refine oE (CJ (ss:=ss) (i:=NN ss-1) (by omega)) fun M hM=>?_
  rw [Dp hM]
  exact R7 hp (by omega) hM
end
section
variable {w:Bool} {own:PV} {g:G} {ss ss':List Sg}
theorem Uq:SK w (fun a=>a==0):=by cases w<;>rfl
theorem Tr (hp:∀ s∈ss,Fd w g s) {i:Nat}:∀ K∈kinds ss i,SK w K:=by
 intro K hK
 refine oEA (B7.mp hK) fun s hs e=>?_
 have hsp:=hp s hs
 unfold Sg.at' at e
 cases hpl:s.pl[i]? with
 | some p =>
  rw [hpl] at e
  have e:=Option.some.inj e
  rw [←e]
  exact (OP (hsp.plw p (List.mem_of_getElem? hpl))).sk
 | none =>
  rw [hpl] at e
  rcases hsp.part.htail with h | h
  ·rw [h] at e
   have e:=Option.some.inj e
   rw [←e];exact Uq
  ·exact (h K e).sk
theorem Og (hp:∀ s∈ss,Fd w g s) {i:Nat} {M:Kn} (h:Ah ss i=some M):SK w M:=by
 have hk:=Tr hp (i:=i)
 unfold Ah at h
 split at h
 ·exact nO h
 ·split at h
  ·rw [←Option.some.inj h];exact Uq
  ·rename_i h1 h2
   rw [←Option.some.inj h]
   unfold SK
   cases w with
   | true =>
    simp only [if_true]
    have hex:∃ K,K∈(kinds ss i).filter fun K=>!K 0:=by
     refine List.exists_mem_of_ne_nil _ fun e=>h2 (by rw [e];rfl)
    obtain ⟨K,hK⟩:=hex
    have hK1:=hk K (List.mem_filter.mp hK).1
    unfold SK at hK1
    simp only [if_true] at hK1
    unfold A3
    rw [List.all_eq_false.mpr ⟨K,hK,by rw [hK1];simp⟩]
    simp
   | false =>
    simp only [Bool.false_eq_true,if_false]
    unfold A3
    split
    ·rfl
    ·have:((kinds ss i).filter fun K=>!K 0).any (fun K=>!K 1&&K 3)=false:=by
      rw [List.any_eq_false]
      intro K hK
      have:=hk K (List.mem_filter.mp hK).1
      unfold SK at this
      simp at this
      simp [this]
     rw [this];simp
noncomputable def tOf:PV→Int
 | .tup [_,.int t,_]=>t
 | _=>0
theorem H9 {n m:Nat} {ret:Int} {tl:List PV} {cnt mf j:Nat} {last:Bool} (gk:GK m g) (hp:∀ s∈ss,Fd w g s) (hc:cnt≤TT ss) (hT:TT ss≤7) (htl:Db g ss tl) (h:CD g own ss ret tl cnt mf last j) :
  AA (n+2) (.fn 62) [.tab,.dct (AZ w),vn j] g=some (DV (BM ss cnt mf last),g)∧∃ ps,g.rows[j]?=some (B6 own ps ret):=by
 refine oEA h fun ps hps hrow=>?_
 refine ⟨?_,_,hrow⟩
 let qs:List Pl:=(List.range' 0 cnt).map fun k=>⟨Up k,tOf (ps.getD k .none),I6 ss k,decide (mf≤k)⟩
 have hqs:ps=qs.map pv:=by
  refine List.ext_getElem? fun k=>?_
  rw [List.getElem?_map,List.getElem?_map]
  by_cases hk:k<cnt
  ·refine oEA (hps.item k hk) fun t h1 h2=>?_
   rw [h1,List.getElem?_range' hk]
   simp only [Option.map_some,Nat.zero_add,Nat.one_mul]
   rw [List.getD_eq_getElem?_getD,h1]
   rfl
  ·rw [List.getElem?_eq_none (by rw [hps.len];omega),List.getElem?_eq_none (by simp;omega)];rfl
 have hq:∀ q∈qs,Kd g q.t q.K∧SK w q.K:=by
  intro q hq
  refine oEA (mQ hq) fun k hk z0=>?_;subst z0
  refine oEA (List.mem_range'.mp hk) fun a ha e=>?_
  have hk:k<cnt:=by omega
  refine oEA (hps.item k hk) fun t h1 h2=>?_
  refine oE (CJ (ss:=ss) (i:=k) (by omega)) fun M hM=>?_
  rw [hM] at h2
  refine ⟨?_,?_⟩
  ·show Kd g (tOf (ps.getD k .none)) (I6 ss k)
   rw [List.getD_eq_getElem?_getD,h1,Dp hM]
   exact h2
  ·show SK w (I6 ss k)
   rw [Dp hM];exact Og hp hM
 have hql:qs.length=cnt:=by simp [qs]
 rw [hqs] at hrow
 have hrd:DV (BM ss cnt mf last)=DV ⟨qs.map qD,(BM ss cnt mf last).tail⟩:=by
  unfold BM
  simp only [qs,List.map_map]
  rfl
 rw [hrd]
 refine XS (n:=n) (tlp:=if last then tl else []) gk hrow hq (by omega) ?_
 cases last with
 | false=>exact .inl ⟨rfl,rfl⟩
 | true =>
  cases hR:RR ss with
  | false =>
   unfold Db at htl
   rw [hR] at htl
   simp only [Bool.false_eq_true,if_false] at htl
   refine .inl ⟨htl,?_⟩
   unfold BM;simp [hR]
  | true =>
   unfold Db at htl
   rw [if_pos hR] at htl
   refine oEEAA htl fun a t h1 h2 h3=>?_
   refine oE (I7 hR) fun M hM=>?_
   rw [hM] at h3
   refine .inr ⟨a,t,M,Fb,h1,h2,h3,Og hp hM,?_⟩
   unfold BM
   simp only [hR,Bool.and_self,if_true]
   rw [Dp hM]
theorem Qk (hs:∀ s,s∈ss↔s∈ss') (hp:∀ s∈ss,Fd w g s):NE (ss'.map dP)=NN ss:=by
 unfold NE
 rw [N1]
 refine FC fun a=>?_
 simp only [List.mem_map]
 constructor
 ·refine fun z3=>oEA z3 fun d z4 e=>?_;obtain ⟨s,hs',rfl⟩:=z4
  have hss:=(hs s).mpr hs'
  exact ⟨s,hss,by rw [←(hp s hss).need];exact e⟩
 ·refine fun z3=>oEA z3 fun s hss e=>?_
  exact ⟨dP s,⟨s,(hs s).mp hss,rfl⟩,by rw [(hp s hss).need];exact e⟩
theorem Nz (hs:∀ s,s∈ss↔s∈ss'):TE (ss'.map dP)=TT ss:=by
 unfold TE
 rw [Kq]
 refine FC fun a=>?_
 simp only [List.mem_map]
 constructor
 ·refine fun z3=>oEA z3 fun d z4 e=>?_;obtain ⟨s,hs',rfl⟩:=z4
  exact ⟨s,(hs s).mpr hs',by rw [←e];simp [dP]⟩
 ·refine fun z3=>oEA z3 fun s hss e=>?_
  exact ⟨dP s,⟨s,(hs s).mp hss,rfl⟩,by rw [←e];simp [dP]⟩
theorem XI (hs:∀ s,s∈ss↔s∈ss'):FE (ss'.map dP)=RR ss:=by
 have e:∀ s:Sg,decide (0≤(dP s).tail)=s.rest.tail.isSome:=fun s=>by
  show decide (0≤VQ s.rest)=_
  unfold VQ
  cases s.rest.tail with
  | none=>rfl
  | some K=>simp
 unfold FE RR
 rw [Bool.eq_iff_iff,List.any_eq_true,List.any_eq_true]
 constructor
 ·refine fun z3=>oEA z3 fun d hd h=>?_
  refine oEA (mQ hd) fun s hs' z0=>?_;subst z0
  exact ⟨s,(hs s).mpr hs',by rw [←e];exact h⟩
 ·refine fun z3=>oEA z3 fun s hss h=>?_
  exact ⟨dP s,List.mem_map_of_mem ((hs s).mp hss),by rw [e];exact h⟩
theorem TD (hs:∀ s,s∈ss↔s∈ss') (hp:∀ s∈ss,Fd w g s) {cnt mf:Nat} {last:Bool} (h1:NN ss≤mf) (h2:mf≤cnt) (h3:cnt≤TT ss) (hl:last=true→cnt=TT ss) (hu:∀ i,mf≤i→i<cnt→Rr (Ah ss i)=true) :
  (∀ c,P7 (BM ss cnt mf last) c=true→BW (ss'.map dP) c=true∧∀ i,i<c→EL (BM ss cnt mf last) i=want (ss'.map dP) i) ∧
  (∀ c,mf≤c→c≤cnt→P7 (BM ss cnt mf last) c=true)∧(last=true→RR ss=true→∀ c,mf≤c→P7 (BM ss cnt mf last) c=true):=by
 refine RG (TF (last:=last) hp h1 h2 h3 hu) fun n1 n2 n3=>?_
 have hpl:(BM ss cnt mf last).pl.length=cnt:=by simp [BM]
 have htail:∀ b:Bool,(last&&RR ss)=b→(BM ss cnt mf last).tail=if b=true then ((Ap (I6 ss (TT ss)):Nat):Int) else -1:=fun b hb=>by unfold BM;simp only;rw [hb]
 have ht:decide (0≤(BM ss cnt mf last).tail)=(last&&RR ss):=by
  cases hb:(last&&RR ss) with
  | true=>rw [htail _ hb];simp
  | false=>rw [htail _ hb];rfl
 refine ⟨fun c hc=>?_,fun c hc1 hc2=>?_,fun hl' hR c hc=>?_⟩
 ·unfold P7 at hc
  rw [ht,hpl] at hc
  simp only [Bool.and_eq_true,Bool.or_eq_true,decide_eq_true_eq] at hc
  refine ⟨?_,fun i hi=>?_⟩
  ·unfold BW
   rw [Qk hs hp,Nz hs,XI hs]
   simp only [Bool.and_eq_true,Bool.or_eq_true,decide_eq_true_eq]
   exact ⟨by omega,hc.2.imp (fun h=>h.2) fun h=>by omega⟩
  ·by_cases hic:i<cnt
   ·rw [n3 i hic]
    refine oE (CJ (ss:=ss) (i:=i) (by omega)) fun M hM=>?_
    rw [Dp hM,IP hs hM]
   ·refine Or.elim (hc.2) (fun z3=>oA z3 fun hl1 hR=>?_) fun hc2=>?_
    ·rw [Y5 (by omega),htail true (by rw [hl1,hR];rfl)]
     simp only [if_true]
     refine oE (I7 hR) fun M hM=>?_
     have:=hl hl1
     have hMi:Ah ss i=some M:=by rw [Ti (by omega)];exact hM
     rw [Dp hM,IP hs hMi]
    ·omega
 ·unfold P7
  rw [hpl]
  simp only [Bool.and_eq_true,Bool.or_eq_true,decide_eq_true_eq]
  exact ⟨by omega,.inr hc2⟩
 ·subst hl'
  unfold P7
  rw [ht,hR]
  simp;omega
theorem QG (hs:∀ s,s∈ss↔s∈ss') (hp:∀ s∈ss,Fd w g s) {c:Nat} (h:BW (ss'.map dP) c=true):NN ss≤c∧(RR ss=true∨c≤TT ss):=by
 unfold BW at h
 rw [Qk hs hp,Nz hs,XI hs] at h
 simpa using h
theorem OA (hs:∀ s,s∈ss↔s∈ss') (hp:∀ s∈ss,Fd false g s):((List.range' (NE (ss'.map dP)) (TE (ss'.map dP)-NE (ss'.map dP))).any fun i=>decide (want (ss'.map dP) i&&&1=0))=!BC ss:=by
 rw [Qk hs hp,Nz hs]
 unfold BC
 have:∀ l:List Nat,(∀ i∈l,i<TT ss)→(l.any fun i=>decide (want (ss'.map dP) i&&&1=0))=!(l.all fun i=>Rr (Ah ss i)):=by
  intro l hl
  induction l with
  | nil=>rfl
  | cons i l ih =>
   rw [List.any_cons,List.all_cons,ih fun j hj=>hl j (.tail _ hj),Bool.not_and]
   congr 1
   refine oE (CJ (ss:=ss) (i:=i) (hl i (.head _))) fun M hM=>?_
   rw [IP hs hM,hM]
   have h3:=Og hp hM
   have h3:M 3=false:=by simpa [SK] using h3
   have e1:decide (Ap M&&&1=0)=!(Ap M).testBit 0:=by
    rw [Nat.and_one_is_mod,Nat.testBit_zero]
    by_cases hz:Ap M%2=1
    ·simp [hz]
    ·have:Ap M%2=0:=by omega
     simp [this]
   rw [e1,A0,YU M,h3]
   simp only [Rr,Bool.or_false]
 refine this _ fun i hi=>?_
 refine oEA (List.mem_range'.mp hi) fun a ha e=>?_
 omega
theorem TA (hs:∀ s,s∈ss↔s∈ss') (hne:ss≠[]) (hl:ss'.length≤50) (hp:∀ s∈ss,Fd w g s) (hT:TT ss≤7) {m:Nat} (gk:GK m g) {both:List Nat} (J:Jn own g ss both) :
  ∃ bs:List (Nat×Dt),bs.map (·.1)=both∧MI w (ss'.map dP) (bs.map (·.2))∧∃ ret,Kd g ret (By (BS ((Bx ss).map Sg.RK)))∧∀ b∈bs,(∀ n,AA (n+2) (.fn 62) [.tab,.dct (AZ w),vn b.1] g=some (DV b.2,g))∧∃ ps,g.rows[b.1]?=some (B6 own ps ret):=by
 refine oEEAA (J.out) fun ret tl hret htl hJ=>?_
 have hNT:=Qj ss
 have hne':ss'.map dP≠[]:=by
  refine oE (List.exists_mem_of_ne_nil _ hne) fun s hs'=>?_
  intro e
  have:=List.mem_map_of_mem (f:=dP) ((hs s).mp hs')
  rw [e] at this;cases this
 have hpl:∀ d∈ss'.map dP,d.pl.length≤50:=fun d hd=>by
  have h1:d.pl.length≤TE (ss'.map dP):=JD (List.mem_map_of_mem hd)
  rw [Nz hs] at h1
  omega
 have hcnt:∀ k,(w=false→k=if BC ss=true then 1 else TT ss-NN ss+1)→w=true∨k=if ((List.range' (NE (ss'.map dP)) (TE (ss'.map dP)-NE (ss'.map dP))).any fun i=>decide (want (ss'.map dP) i&&&1=0))=true then TE (ss'.map dP)-NE (ss'.map dP)+1 else 1:=by
  intro k hk
  cases w with
  | true=>exact .inl rfl
  | false =>
   right
   rw [hk rfl,OA hs hp,Qk hs hp,Nz hs]
   cases BC ss<;>rfl
 cases hU:BC ss with
 | true =>
  rw [if_pos hU] at hJ
  refine oEA hJ fun j hj hsig=>?_
  have hok:∀ i,NN ss≤i→i<TT ss→Rr (Ah ss i)=true:=fun i h1 h2=>by
   unfold BC at hU
   rw [List.all_eq_true] at hU
   exact hU i (List.mem_range'.mpr ⟨i-NN ss,by omega,by omega⟩)
  refine RG (TD (last:=true) hs hp (Nat.le_refl (NN ss)) hNT (Nat.le_refl _) (fun _=>rfl) hok) fun o1 o2 o3=>?_
  refine ⟨[(j,BM ss (TT ss) (NN ss) true)],by rw [hj];rfl,⟨hne',hpl,by simpa using hl,fun d hd=>?_,by simp,fun c hc=>⟨fun r hr h=>?_,fun h=>?_⟩,hcnt _ fun hw=>by rw [if_pos hU];rfl⟩,ret,hret,fun b hb=>?_⟩
  ·simp at hd;subst hd
   simp [BM];omega
  ·simp at hr;subst hr
   exact o1 c h
  ·refine oA (QG hs hp h) fun h1 h2=>?_
   refine ⟨BM ss (TT ss) (NN ss) true,by simp,?_⟩
   rcases h2 with h2 | h2
   ·exact o3 rfl h2 c h1
   ·exact o2 c h1 h2
  ·simp at hb;subst hb
   refine oA (H9 (n:=0) gk hp (Nat.le_refl _) hT htl hsig) fun _ h2=>?_
   exact ⟨fun n=>(H9 (n:=n) gk hp (Nat.le_refl _) hT htl hsig).1,h2⟩
 | false =>
  rw [if_neg (by simp [hU])] at hJ
  obtain ⟨hlen,hsig⟩:=hJ
  let rds:List Dt:=(List.range' 0 (TT ss-NN ss+1)).map fun c=>BM ss (NN ss+c) (NN ss+c) (NN ss+c==TT ss)
  have hrl:rds.length=both.length:=by simp [rds,hlen]
  have one:∀ c',c'≤TT ss-NN ss→_:=fun c' hc'=>TD (last:=(NN ss+c'==TT ss)) (cnt:=NN ss+c') (mf:=NN ss+c') hs hp (by omega) (Nat.le_refl _) (by omega) (fun h=>by simpa using h) fun i h1 h2=>by omega
  have hrds:∀ r∈rds,∃ c',c'≤TT ss-NN ss∧r=BM ss (NN ss+c') (NN ss+c') (NN ss+c'==TT ss):=by
   intro r hr
   refine oEA (mQ hr) fun c' hc' e=>?_
   refine oEA (List.mem_range'.mp hc') fun a ha e2=>?_
   exact ⟨c',by omega,e.symm⟩
  have hin:∀ c',c'≤TT ss-NN ss→BM ss (NN ss+c') (NN ss+c') (NN ss+c'==TT ss)∈rds:=fun c' hc'=>List.mem_map.mpr ⟨c',List.mem_range'.mpr ⟨c',by omega,by omega⟩,rfl⟩
  have z1:(both.zip rds).map (·.1)=both:=List.map_fst_zip (by omega)
  have z2:(both.zip rds).map (·.2)=rds:=List.map_snd_zip (by omega)
  refine ⟨both.zip rds,z1,?_,ret,hret,fun b hb=>?_⟩
  ·rw [z2]
   refine ⟨hne',hpl,by simpa using hl,fun d hd=>?_,by rw [hrl,hlen];omega,fun c hc=>⟨fun r hr h=>?_,fun h=>?_⟩,hcnt _ fun hw=>by rw [if_neg (by simp [hU]),hrl,hlen]⟩
   ·refine oEA (hrds d hd) fun c' hc' z0=>?_;subst z0
    simp [BM];omega
   ·refine oEA (hrds r hr) fun c' hc' z0=>?_;subst z0
    exact (one c' hc').1 c h
   ·refine oA (QG hs hp h) fun h1 h2=>?_
    by_cases hcT:c≤TT ss
    ·refine ⟨_,hin (c-NN ss) (by omega),?_⟩
     exact (one (c-NN ss) (by omega)).2.1 c (by omega) (by omega)
    ·have hR:=h2.resolve_right hcT
     refine ⟨_,hin (TT ss-NN ss) (by omega),?_⟩
     refine (one (TT ss-NN ss) (by omega)).2.2 ?_ hR c (by omega)
     have:NN ss+(TT ss-NN ss)=TT ss:=by omega
     rw [this];simp
  ·refine oE (List.getElem?_of_mem hb) fun i hi=>?_
   rw [List.getElem?_zip_eq_some] at hi
   obtain ⟨hi1,hi2⟩:=hi
   have hilt:i<both.length:=(gI hi1).1
   refine oEA (hsig i (by omega)) fun j hj hsig'=>?_
   rw [hj] at hi1
   have e1:j=b.1:=Option.some.inj hi1
   have e2:BM ss (NN ss+i) (NN ss+i) (NN ss+i==TT ss)=b.2:=by
    simp only [rds] at hi2
    rw [List.getElem?_map,List.getElem?_range' (by omega)] at hi2
    simpa using hi2
   rw [←e1,←e2]
   refine oA (H9 (n:=0) gk hp (by omega) hT htl hsig') fun _ h2=>?_
   exact ⟨fun n=>(H9 (n:=n) gk hp (by omega) hT htl hsig').1,h2⟩
end
theorem OX {K:Kn} {c:Int} (h:By K c=true) (h0:c≠0) (h1:c≠1):K c=true:=by
 unfold By at h
 split at h
 ·exact absurd (by simpa using h) h0
 ·split at h
  ·exact absurd (by simpa using h) h1
  ·simp only [Bool.and_eq_true] at h
   exact h.1.1
theorem ZG (K:Kn):By K 0=K 0:=by
 unfold By
 cases K 0 with
 | true=>rfl
 | false =>
  cases K 1<;>simp
theorem Wv (K:Kn):By K 1=(K 1&&!K 0):=by
 unfold By
 cases K 0 with
 | true=>simp
 | false =>
  cases K 1<;>simp
theorem Qs (w:Bool):∀ e∈SZ w,(e.2 3=true→e.1=3)∧(e.2 4=true→e.1=4)∧(e.1=3→e.2 3=true)∧(e.2 0=true↔e.1=0)∧(e.2 1=true↔e.1=1):=by
 cases w<;>decide
theorem SY (w:Bool):∀ e∈SZ w,e.1=4→Ap e.2=1:=by cases w<;>decide
section
variable {w:Bool} {own:PV} {g:G} {ss ss':List Sg}
noncomputable def rV (s:Sg):VV:=rE (s.ret,Ap s.RK)
theorem Q8 (hs:∀ s,s∈ss↔s∈ss') (hp:∀ s∈ss,Fd w g s) {m:Nat} (gk:GK m g) :
  Ap (By (BS ((Bx ss).map Sg.RK)))=RE ((ss'.map fun s=>(s.ret,Ap s.RK)).map (·.2))∧(By (BS ((Bx ss).map Sg.RK)) 3&&By (BS ((Bx ss).map Sg.RK)) 4)=false ∧
  By (BS ((Bx ss).map Sg.RK)) 0=decide (0∈(ss'.map fun s=>(s.ret,Ap s.RK)).map (·.1))∧By (BS ((Bx ss).map Sg.RK)) 1=(decide (1∈(ss'.map fun s=>(s.ret,Ap s.RK)).map (·.1))&&!decide (0∈(ss'.map fun s=>(s.ret,Ap s.RK)).map (·.1)))∧SK w (By (BS ((Bx ss).map Sg.RK))):=by
 have any_iff:∀ c,BS ((Bx ss).map Sg.RK) c=true↔∃ s∈Bx ss,s.RK c=true:=fun c=>by
  unfold BS
  rw [List.any_map,List.any_eq_true];rfl
 have in_ret:∀ s,s∈Bx ss↔s∈ss∧(s.ret≠4∨3∉ss.map Sg.ret):=fun s=>by
  unfold Bx
  rw [List.mem_filter]
  simp
 have tf:=Qs w
 have mapf:∀ c:Int,c∈(ss'.map fun s=>(s.ret,Ap s.RK)).map (·.1)↔∃ s∈ss,s.ret=c:=fun c=>by
  simp only [List.mem_map]
  constructor
  ·refine fun z0=>oEA z0 fun e z1 h2=>?_;obtain ⟨s,h1,rfl⟩:=z1;exact ⟨s,(hs s).mpr h1,h2⟩
  ·refine fun z0=>oEA z0 fun s h1 h2=>?_;exact ⟨_,⟨s,(hs s).mp h1,rfl⟩,h2⟩
 have a01:∀ c:Int,(c=0∨c=1)→(BS ((Bx ss).map Sg.RK) c=true↔∃ s∈ss,s.ret=c):=by
  intro c hc
  rw [any_iff]
  constructor
  ·refine fun z0=>oEA z0 fun s h1 h2=>?_
   have hss:=((in_ret s).mp h1).1
   have:=tf _ (hp s hss).retm
   rcases hc with rfl | rfl
   ·exact ⟨s,hss,this.2.2.2.1.mp h2⟩
   ·exact ⟨s,hss,this.2.2.2.2.mp h2⟩
  ·refine fun z0=>oEA z0 fun s h1 h2=>?_
   have:=tf _ (hp s h1).retm
   refine ⟨s,(in_ret s).mpr ⟨h1,.inl (by omega)⟩,?_⟩
   rcases hc with rfl | rfl
   ·exact this.2.2.2.1.mpr h2
   ·exact this.2.2.2.2.mpr h2
 refine ⟨?_,?_,?_,?_,?_⟩
 ·rw [QD]
  refine Nat.eq_of_testBit_eq fun j=>?_
  rw [A0,P5,Bool.eq_iff_iff]
  simp only [List.any_map,List.any_eq_true,Function.comp]
  constructor
  ·intro h
   unfold BN at h
   rw [List.any_eq_true] at h
   refine oEA h fun a ha h=>?_
   simp only [Bool.and_eq_true] at h
   refine oEA ((any_iff a).mp h.1) fun s h1 h2=>?_
   refine ⟨s,(hs s).mp ((in_ret s).mp h1).1,?_⟩
   rw [A0]
   unfold BN
   rw [List.any_eq_true]
   exact ⟨a,ha,by simp [h2,h.2]⟩
  ·refine fun z0=>oEA z0 fun s h1 h2=>?_
   have hss:=(hs s).mpr h1
   rw [A0] at h2
   have go:∀ s0∈Bx ss,BN s0.RK j=true→BN (BS ((Bx ss).map Sg.RK)) j=true:=by
    intro s0 hs0 hb
    unfold BN at hb ⊢
    rw [List.any_eq_true] at hb ⊢
    refine oEA hb fun a ha h=>?_
    simp only [Bool.and_eq_true] at h
    exact ⟨a,ha,by simp [(any_iff a).mpr ⟨s0,hs0,h.1⟩,h.2]⟩
   by_cases hr:s∈Bx ss
   ·exact go s hr h2
   ·have h4:s.ret=4∧3∈ss.map Sg.ret:=by
     rw [in_ret] at hr
     refine ⟨Classical.byContradiction fun h=>hr ⟨hss,.inl h⟩,Classical.byContradiction fun h=>hr ⟨hss,.inr h⟩⟩
    have hm:=SY w _ (hp s hss).retm h4.1
    rw [←A0,hm] at h2
    have j0:j=0:=by
     have e:(1:Nat)=2 ^ 0:=rfl
     rw [e,Nat.testBit_two_pow] at h2
     have:=of_decide_eq_true h2
     omega
    subst j0
    refine oEA (mQ h4.2) fun s3 h3 h3'=>?_
    refine go s3 ((in_ret s3).mpr ⟨h3,.inl (by omega)⟩) ?_
    have h33:s3.RK 3=true:=(tf _ (hp s3 h3).retm).2.2.1 h3'
    rw [YU s3.RK,h33]
    simp
 ·cases h3:By (BS ((Bx ss).map Sg.RK)) 3 with
  | false=>rfl
  | true =>
   cases h4:By (BS ((Bx ss).map Sg.RK)) 4 with
   | false=>rfl
   | true =>
    exfalso
    refine oEA ((any_iff 3).mp (OX h3 (by decide) (by decide))) fun s3 a1 a2=>?_
    refine oEA ((any_iff 4).mp (OX h4 (by decide) (by decide))) fun s4 b1 b2=>?_
    have W3:=(in_ret s3).mp a1
    have hs4:=(in_ret s4).mp b1
    have e3:=(tf _ (hp s3 W3.1).retm).1 a2
    have e4:=(tf _ (hp s4 hs4.1).retm).2.1 b2
    rcases hs4.2 with h | h
    ·exact h e4
    ·exact h (List.mem_map.mpr ⟨s3,W3.1,e3⟩)
 ·rw [ZG,Bool.eq_iff_iff,decide_eq_true_iff,mapf]
  exact a01 0 (.inl rfl)
 ·rw [Wv]
  congr 1
  ·rw [Bool.eq_iff_iff,decide_eq_true_iff,mapf];exact a01 1 (.inr rfl)
  ·congr 1
   rw [Bool.eq_iff_iff,decide_eq_true_iff,mapf];exact a01 0 (.inl rfl)
 ·have hw:∀ s∈Bx ss,WK w s.RK:=fun s h=>(K4 gk w _ (hp s ((in_ret s).mp h).1).retm).2
  unfold SK
  cases w with
  | true =>
   simp only [if_true]
   rw [Wv]
   have:BS ((Bx ss).map Sg.RK) 1=false:=by
    rw [Bool.eq_false_iff]
    intro h
    refine oEA ((any_iff 1).mp h) fun s h1 h2=>?_
    have:=hw s h1
    simp only [WK,if_true] at this
    rw [this.2] at h2;exact nB h2
   rw [this];rfl
  | false =>
   simp only [Bool.false_eq_true,if_false]
   rw [Bool.eq_false_iff]
   intro h
   refine oEA ((any_iff 3).mp (OX h (by decide) (by decide))) fun s h1 h2=>?_
   have:=hw s h1
   simp [WK] at this
   rw [this] at h2;exact nB h2
theorem KG {n m:Nat} {os:List Int} (gk:GK m g) (ho:own=.tup (os.map .int)) (hs:∀ s,s∈ss↔s∈ss') (hne:ss≠[]) (hl:ss'.length≤50) (hp:∀ s∈ss,Fd w g s) (hT:TT ss≤7) {both:List Nat} (J:Jn own g ss both) :
  AA (n+4) (.fn 64) [.tab,.dct (AZ w),.imm (.tup (both.map fun j:Nat=>PV.int j)),.lst (ss'.map A1),.lst (ss'.map rV),.imm own,vi (mk w)] g=some (vb true,g):=by
 refine oEAAEA (TA hs hne hl hp hT gk J) fun bs hb ok ret hret hall=>?_
 refine Mr (Q8 hs hp gk) fun r1 r2 r3 r4 r5=>?_
 have hparts:ss'.map A1=(ss'.map dP).map DV:=by
  rw [List.map_map]
  exact List.map_congr_left fun s _=>TO s
 have hrs:ss'.map rV=(ss'.map fun s=>(s.ret,Ap s.RK)).map rE:=by rw [List.map_map];rfl
 rw [←hb,hparts,hrs]
 refine VG ok ⟨_,ho⟩ (fun b hb=>(hall b hb).1 (n+1)) fun b hb=>?_
 refine oE ((hall b hb).2) fun ps hrow=>?_
 exact VM (n:=n+1) gk ho hrow hret r5 (by simp;omega) r1 r2 r3 r4
theorem RO.uniq {m:Nat} (gk:GK m g) {t t':Int} {o:Option Kn} (h:RO g t o) (h':RO g t' o):t=t':=by
 cases o with
 | none=>exact (h:t=-1).trans (h':t'=-1).symm
 | some K=>exact Kd.uniq gk h h' fun _ _=>rfl
theorem Db.uniq {m:Nat} (gk:GK m g) {tl tl':List PV} (h:Db g ss tl) (h':Db g ss tl'):tl=tl':=by
 unfold Db at h h'
 split at h
 ·rename_i hr
  rw [if_pos hr] at h'
  refine oEEAA h fun a t e1 e2 e3=>?_
  refine oEEAA h' fun a' t' f1 f2 f3=>?_
  have:=e3.uniq gk f3
  subst this
  have:=Il gk.nd e2 f2
  subst this
  rw [e1,f1]
 ·rename_i hr
  rw [if_neg hr] at h'
  rw [h,h']
theorem HP.uniq {m:Nat} (gk:GK m g) {cnt mf:Nat} {ps ps':List PV} (h:HP g ss cnt mf ps) (h':HP g ss cnt mf ps'):ps=ps':=by
 refine List.ext_getElem? fun k=>?_
 by_cases hk:k<cnt
 ·refine oEA (h.item k hk) fun t e1 e2=>?_
  refine oEA (h'.item k hk) fun t' f1 f2=>?_
  rw [e1,f1,e2.uniq gk f2]
 ·rw [List.getElem?_eq_none (by rw [h.len];omega),List.getElem?_eq_none (by rw [h'.len];omega)]
theorem CD.uniq {m:Nat} (gk:GK m g) {ret:Int} {tl:List PV} {cnt mf:Nat} {last:Bool} {j j':Nat} (h:CD g own ss ret tl cnt mf last j) (h':CD g own ss ret tl cnt mf last j'):j=j':=by
 refine oEA h fun ps e1 e2=>?_
 refine oEA h' fun ps' f1 f2=>?_
 rw [←e1.uniq gk f1] at f2
 exact Il gk.nd e2 f2
theorem Jn.uniq {m:Nat} (gk:GK m g) {both both':List Nat} (h:Jn own g ss both) (h':Jn own g ss both'):both=both':=by
 refine oEEAA (h.out) fun ret tl a1 a2 a3=>?_
 refine oEEAA (h'.out) fun ret' tl' b1 b2 b3=>?_
 have e1:=a1.uniq gk b1 fun _ _=>rfl
 have e2:=a2.uniq gk b2
 subst e1 e2
 split at a3
 ·rename_i hU
  rw [if_pos hU] at b3
  refine oEA a3 fun j c1 c2=>?_
  refine oEA b3 fun j' d1 d2=>?_
  rw [c1,d1,c2.uniq gk d2]
 ·rename_i hU
  rw [if_neg hU] at b3
  refine List.ext_getElem? fun c=>?_
  by_cases hc:c≤TT ss-NN ss
  ·refine oEA (a3.2 c hc) fun j c1 c2=>?_
   refine oEA (b3.2 c hc) fun j' d1 d2=>?_
   rw [c1,d1,c2.uniq gk d2]
  ·rw [List.getElem?_eq_none (by rw [a3.1];omega),List.getElem?_eq_none (by rw [b3.1];omega)]
theorem RU (ss:List Sg) (i:Nat):kinds ss.reverse i=(kinds ss i).reverse:=by
 unfold kinds;rw [List.filterMap_reverse]
theorem RP (l:List Kn):A3 l.reverse=A3 l:=by
 funext c
 unfold A3
 simp only [List.all_reverse,List.any_reverse]
theorem FD (ss:List Sg):Ah ss.reverse=Ah ss:=by
 funext i
 unfold Ah
 rw [RU,List.filter_reverse,RP]
 simp only [List.isEmpty_reverse]
theorem Ux (ss:List Sg):NN ss.reverse=NN ss:=by
 rw [N1,N1];exact FC fun a=>by simp
theorem Jh (ss:List Sg):TT ss.reverse=TT ss:=by
 rw [Kq,Kq];exact FC fun a=>by simp
theorem Yg (ss:List Sg):RR ss.reverse=RR ss:=by unfold RR;rw [List.any_reverse]
theorem WR (ss:List Sg):BS ((Bx ss.reverse).map Sg.RK)=BS ((Bx ss).map Sg.RK):=by
 funext c
 unfold BS Bx
 rw [List.any_map,List.any_map,List.filter_reverse,List.any_reverse]
 simp only [List.map_reverse,List.mem_reverse]
theorem Jn.rev {both:List Nat} (h:Jn own g ss.reverse both):Jn own g ss both:=by
 refine oEEAA (h.out) fun ret tl a1 a2 a3=>?_
 have eu:BC ss.reverse=BC ss:=by unfold BC;rw [Ux,Jh,FD]
 have et:Db g ss tl:=by unfold Db at a2 ⊢;rw [Yg,FD,Jh] at a2;exact a2
 have es:∀ cnt mf last j,CD g own ss.reverse ret tl cnt mf last j→CD g own ss ret tl cnt mf last j:=by
  refine fun cnt mf last j z0=>oEA z0 fun ps b1 b2=>?_
  exact ⟨ps,⟨b1.len,fun k hk=>by have:=b1.item k hk;rw [FD] at this;exact this⟩,b2⟩
 rw [WR] at a1
 rw [eu,Ux,Jh] at a3
 refine ⟨ret,tl,a1,et,?_⟩
 split
 ·rename_i hU
  rw [if_pos hU] at a3
  refine oEA a3 fun j c1 c2=>?_
  exact ⟨j,c1,es _ _ _ _ c2⟩
 ·rename_i hU
  rw [if_neg hU] at a3
  exact ⟨a3.1,fun c hc=>by refine oEA (a3.2 c hc) fun j c1 c2=>?_;exact ⟨j,c1,es _ _ _ _ c2⟩⟩
end
theorem LH {g:G} {r:PV} (h1:r.isTup=true) (h2:r.plain=true) (hn:r∉g.rows) (hl:g.rows.length<50000):Br g r=some (vn g.rows.length,{ g with rows:=g.rows++[r] }):=by
 unfold Br
 rw [if_pos ⟨h1,h2,hl⟩,if_neg hn]
theorem Do {r:PV} {l:List PV} (h:code r∉l.map code):r∉l:=fun hm=>h (List.mem_map_of_mem hm)
noncomputable def rA:PV:=.tup [.int 3,.str (sO "a"),.int 0]
noncomputable def rB:PV:=.tup [.int 3,.str (sO "b"),.int 0]
noncomputable def rC:PV:=.tup [.int 4,.int 1,.int 0]
theorem WO:Aa.Nodup:=by
 have:(Aa.map code).Nodup:=by decide +kernel
 exact List.Pairwise.imp (fun h e=>h (by rw [e])) (List.pairwise_map.mp this)
theorem Qa {p:Nat} {s:List Int} {k:Nat}:GK 18 ⟨Aa,p,s,k⟩:=by
 refine ⟨⟨[],(List.append_nil _).symm⟩,WO,fun row hr hu=>?_,?_⟩
 ·refine oE (List.getElem?_of_mem hr) fun i hi=>?_
  have hi:Aa[i]?=some row:=hi
  have hm:(Aa.map Ru)[i]?=some true:=by rw [List.getElem?_map,hi,Option.map_some,hu]
  have he:Aa.map Ru=[false,false,false,false,false,false,false,false,false,false,false,false,true,false,false,false,false,false,false]:=by kernel_rfl
  rw [he] at hm
  have hp:∀ i,i<19→[false,false,false,false,false,false,false,false,false,false,false,false,true,false,false,false,false,false,false][i]?=some true→i=12:=by decide
  have h12:i=12:=hp i (gI hm).1 hm
  subst h12
  refine ⟨fun c=>c==8||c==9,?_⟩
  have hS:toS (fun c=>c==8||c==9)=[8,9]:=by decide
  rw [hS]
  have:Aa[12]?=some (EM [8,9]):=rfl
  rw [this] at hi
  exact (Option.some.inj hi).symm
 ·show (Aa.filter fun r=>!Ru r).length≤18
  have:(Aa.filter fun r=>!Ru r).length=18:=by kernel_rfl
  omega
noncomputable abbrev W6 (p:Nat) (s:List Int) (k:Nat):G:=⟨Au,p,s,k⟩
noncomputable abbrev ZY (p:Nat) (s:List Int) (k:Nat):G:=⟨Au++[rA],p,s,k⟩
noncomputable abbrev ZX (p:Nat) (s:List Int) (k:Nat):G:=⟨(Au++[rA])++[rB],p,s,k⟩
noncomputable abbrev YH (p:Nat) (s:List Int) (k:Nat):G:=⟨((Au++[rA])++[rB])++[rC],p,s,k⟩
theorem ZA (p:Nat) (s:List Int) (k:Nat):Br (W6 p s k) rA=some (vi 16,ZY p s k) :=
 LH rfl (by decide +kernel) (Do (l:=Au) (by decide +kernel)) (by show Au.length<50000;decide +kernel)
theorem Y9 (p:Nat) (s:List Int) (k:Nat):Br (ZY p s k) rB=some (vi 17,ZX p s k) :=
 LH rfl (by decide +kernel) (Do (l:=Au++[rA]) (by decide +kernel)) (by show (Au++[rA]).length<50000;decide +kernel)
theorem Y8 (p:Nat) (s:List Int) (k:Nat):Br (ZX p s k) rC=some (vi 18,YH p s k) :=
 LH rfl (by decide +kernel) (Do (l:=(Au++[rA])++[rB]) (by decide +kernel)) (by show ((Au++[rA])++[rB]).length<50000;decide +kernel)
theorem YG (p:Nat) (s:List Int) (k:Nat):YH p s k=⟨Aa,p,s,k⟩:=by
 show (⟨_,p,s,k⟩:G)=_
 congr 1
theorem Wg {n:Nat} {g g':G} {x:Str} {v:VV} (h:Br g (.tup [.int 3,.str x,.int 0])=some (v,g')):AA (n+2) (.fn 4) [.tab,.imm (.str x)] g=some (v,g') :=
 AX (σ:=[sv .tab,sv (.imm (.str x)),sv (vi 0)]) rfl rfl (by decide) (AS (AE rfl) (Fv (b:=.tab) (g1:=g) (g2:=g) (vs:=[.imm (.tup [.int 3,.str x,.int 0])]) rfl (by rfl) h))
theorem Yo {n:Nat} {g g':G} {x:Int} {v:VV} (h:Br g (.tup [.int 4,.int x,.int 0])=some (v,g')):AA (n+2) (.fn 5) [.tab,vi x] g=some (v,g') :=
 AX (σ:=[sv .tab,sv (vi x),sv (vi 0)]) rfl rfl (by decide) (AS (AE rfl) (Fv (b:=.tab) (g1:=g) (g2:=g) (vs:=[.imm (.tup [.int 4,.int x,.int 0])]) rfl (by rfl) h))
theorem VD {n:Nat} (w:Bool) (p:Nat) (s:List Int) (k:Nat):AA (n+3) (.fn 56) [.tab,vi (mk w)] (W6 p s k)=some (Bo w,⟨Aa,p,s,k⟩):=by
 rw [←YG]
 let it:Int→Int→VV:=fun a b=>.imm (.tup [.int a,.int b])
 let l1:List VV:=[it 6 28,it 16 4,it 7 96,it 4 1,it 17 8]
 let l2:List VV:=[it 18 32,it 9 256,it 12 384,it 5 2,it 2 0]
 let l3:List VV:=if w then [it 3 513,it 3 513] else [it 0 2047,it 1 2047]
 have hV:Bo w=.lst ((l1++l2)++l3):=by cases w<;>kernel_rfl
 rw [hV]
 refine AX (σ:=[sv .tab,sv (vi (mk w)),none,none]) rfl rfl (by decide) ?_
 refine AF (σ0:=[sv .tab,sv (vi (mk w)),none,none]) (w:=.lst l3) (g1:=W6 p s k) (AE rfl) rfl (by cases w<;>rfl) ?_
 refine B5 (σ0:=[sv .tab,sv (vi (mk w)),sv (.lst l3),none]) (vs:=l1) (g1:=ZX p s k) (AE rfl) ?_ ?_
 ·refine AB (v:=it 6 28) (g1:=W6 p s k) rfl (AB (v:=it 16 4) (g1:=ZY p s k) ?_ (AB (v:=it 7 96) (g1:=ZY p s k) rfl (AB (v:=it 4 1) (g1:=ZY p s k) rfl (AB (v:=it 17 8) (g1:=ZX p s k) ?_ AR))))
  ·exact CL (vs:=[vi 16,vi 4]) (AB (AH rfl rfl (vs:=[.tab,.imm (.str (sO "a"))]) rfl (Wg (n:=n) (ZA p s k))) (AB rfl AR))
  ·exact CL (vs:=[vi 17,vi 8]) (AB (AH rfl rfl (vs:=[.tab,.imm (.str (sO "b"))]) rfl (Wg (n:=n) (Y9 p s k))) (AB rfl AR))
 refine AF (σ0:=[sv .tab,sv (vi (mk w)),sv (.lst l3),sv (.lst l1)]) (w:=.lst (l1++l2)) (g1:=YH p s k) rfl rfl (Aj (x:=.lst l1) (y:=.lst l2) (g1:=ZX p s k) (g2:=YH p s k) rfl (UI (AB (v:=it 18 32) (g1:=YH p s k) (CL (vs:=[vi 18,vi 32]) (AB (AH rfl rfl (vs:=[.tab,vi 1]) rfl (Yo (n:=n) (Y8 p s k))) (AB rfl AR))) (by rfl))) (IJ (by decide))) ?_
 exact AS (σ0:=[sv .tab,sv (vi (mk w)),sv (.lst l3),sv (.lst (l1++l2))]) (AE rfl) (Aj (x:=.lst (l1++l2)) (y:=.lst l3) (g1:=YH p s k) (g2:=YH p s k) rfl rfl (IJ (by cases w<;>decide)))
theorem EE.snoc {own:PV} {g:G} {is:List Nat} {ss:List Sg} {i:Nat} {s:Sg} (hk:EE own g is ss) (h:FO own g i s):EE own g (is++[i]) (ss++[s]):=by
 induction hk with
 | nil=>exact .cons h .nil
 | cons a _ ih=>exact .cons a ih
theorem EE.rev {own:PV} {g:G} {is:List Nat} {ss:List Sg} (h:EE own g is ss):EE own g is.reverse ss.reverse:=by
 induction h with
 | nil=>exact .nil
 | cons a _ ih=>rw [List.reverse_cons,List.reverse_cons];exact ih.snoc a
theorem EE.last {own:PV} {g:G} {is:List Nat} {ss:List Sg} {i:Nat} {s:Sg} (h:EE own g (is++[i]) (ss++[s])):FO own g i s:=by
 have:=h.rev
 rw [List.reverse_append,List.reverse_append] at this
 cases this with
 | cons a b=>exact a
theorem MV {g:G} {xs:List VV} {x:VV} (h:xs.length+1≤100000):GG g (.lst (xs++[x])) (vi (-1))=some x:=by
 show atI (xs++[x]) (-1)=_
 unfold atI
 rw [if_pos (by simpa using h),if_neg (by omega),if_pos (by simp;omega)]
 have:((-1:Int)+((xs++[x]).length:Nat)).toNat=xs.length:=by simp;omega
 rw [this];simp
theorem AAb {n:Nat} {own:PV} {ow:List PV} {w:VV} {ret:Int} {g:G} (ho:own=.tup ow):AA (n+2) (.fn 11) [.tab,.imm own,w,vi ret] g=AA (n+2) (.fn 11) [.tab,.imm own,w,vi ret,.imm (.tup []),vi 0] g:=by
 subst ho;rfl
theorem Fd.ext {w:Bool} {g g':G} {s:Sg} (h:Fd w g s) (e:C3 g g'):Fd w g' s:=⟨h.part.ext e,h.nms,h.retm⟩
theorem Fd.pl5 {w:Bool} {g:G} {s:Sg} (h:Fd w g s):s.pl.length≤5:=by
 have h1:=h.part.hlen
 have h2:=h.els2.1
 unfold Sg.pl
 simp;omega
theorem Uv {w:Bool} {g:G} {ss:List Sg} (h:∀ s∈ss,Fd w g s):TT ss≤7:=by
 rw [Kq]
 refine Iz fun a ha=>?_
 refine oEA (mQ ha) fun s hs z0=>?_;subst z0
 have:=(h s hs).pl5
 omega
noncomputable abbrev Rw (ns:List Int) (how:Nat) (w:Bool) (seen own sg pt rt go both twice par part:Option VS):VL :=
 [sv (.imm (.fl ns)),sv .dd,sv .tab,sv (vn how),sv (vi (mk w)),sv (Bo w),seen,own,sg,pt,rt,go,both,twice,sv (vi (if w then 3 else 1)),sv (vi (if w then 513 else 2047)),par,part]++List.replicate 13 none
noncomputable abbrev ZL:List PS:=[.assignT [16,17] (.call (.gl 126) [.loc 1,.loc 2,.loc 5]),.expr (.meth (.loc 10) 0 [.sub (.loc 5) (.call (.gl 115) [.loc 1,.int 12])]),.expr (.meth (.loc 9) 0 [.loc 17]),.expr (.meth (.loc 8) 0 [.call (.gl 111) [.loc 2,.loc 7,.loc 16,.sub (.sub (.loc 10) (.int (-1))) (.int 0)]])]
theorem X2 {w:Bool} {g:G} {fx:List Pl} {rest:Rest} (h:HQ w g fx rest):∀ p∈fx++rest.els,∀ a∈AI,By p.K a=p.K a:=by
 intro p hp
 rcases mA hp with hp | hp
 ·exact (h.hfx p hp).kd.nm
 ·cases hr:rest with
  | tup rt els tl =>
   rw [hr] at hp
   exact ((h.hrest.tup _ _ _ hr).2.1 p hp).nm
  | _=>rw [hr] at hp;cases hp
theorem Tq {w:Bool} {ns:List Int} {how:Nat} {seen:List (Int×Int)} {own:PV} {ow:List PV} (ho:own=.tup ow) (hop:Ad 5 own=true):∀ (c k:Nat) (is:List Nat) (ss:List Sg) (go par part:Option VV) (g:G) (m:Nat),k+c≤10→m+2*c≤900→ss.length=k→g.scr.length≤100000→GK m g→EE own g is ss→(∀ s∈ss,Fd w g s) →
  ∃ (is':List Nat) (ss':List Sg) (go' par' part':Option VV) (g':G),AU (Bv (AA 60) ZL) (.one 11) ((List.range' k c).map vn) (Rw ns how w (some (.ownD seen)) (sv (.imm own)) (some (.own (is.map vn))) (some (.own (ss.map A1))) (some (.own (ss.map rV))) (go.map VS.val) none none (par.map VS.val) (part.map VS.val)) g
   = some (.next,Rw ns how w (some (.ownD seen)) (sv (.imm own)) (some (.own (is'.map vn))) (some (.own (ss'.map A1))) (some (.own (ss'.map rV))) (go'.map VS.val) none none (par'.map VS.val) (part'.map VS.val),g')∧ss'.length=k+c∧GK (m+2*c) g'∧EE own g' is' ss'∧∀ s∈ss',Fd w g' s:=by
 intro c
 induction c with
 | zero =>
  intro k is ss go par part g m hk hm hl hs gk hS hP
  exact ⟨is,ss,go,par,part,g,BA,hl,gk,hS,hP⟩
 | succ c ih =>
  intro k is ss go par part g m hk hm hl hs gk hS hP
  have hil:=hS.len
  refine oEEEAAA (XT (n:=49) (w:=w) gk (by omega) hs) fun fx rest g1 q1 q2 q3 q4=>?_
  have Rv:g1.scr.length≤100000:=by rw [q2.scr];exact hs
  refine oEEAAA (GF (n:=59) (g:=g1) (k:=12) (by decide) Rv) fun x g2 x1 x2 x3 x4=>?_
  have gk2:=q3.same x4
  refine oE (OD w (i:=x) x2) fun z0 hi=>?_;obtain ⟨rt,RK⟩:=z0
  have hmem:=List.mem_of_getElem? hi
  let s:Sg:=⟨fx,rest,rN,rt,RK⟩
  have P2:=q4.ext x3
  have hsp2:Fd w g2 s:=⟨P2,X2 P2,hmem⟩
  have hpl:∀ p∈fx.map pv++s.restP,Ad 4 p=true:=by
   intro p hp
   rcases mA hp with hp | hp
   ·refine oEA (mQ hp) fun q hq z0=>?_;subst z0
    exact (P2.hfx q hq).pl
   ·unfold Sg.restP at hp
    split at hp
    ·cases hp
    ·simp at hp;subst hp
     have:rN.cps.all (·<0x110000)=true:=by decide +kernel
     exact pl3 this
  have hpll:(fx.map pv++s.restP).length≤100:=by
   have h1:=P2.hlen
   have:s.restP.length≤1:=by unfold Sg.restP;split<;>simp
   simp;omega
  refine oEEAAAA (G0 (n:=58) (w:=.lst ((fx.map pv++s.restP).map VV.imm)) (ret:=rt) gk2 (by omega) ho (Ex (by omega)) hop hpl) fun j g3 z1 z2 z3 z4 _=>?_
  have e03:=(q2.trans x3).trans z3
  have hsok:FO own g3 j s:=⟨z2,fun p hp=>((P2.hfx p hp).kd.ext z3),P2.hlen,P2.hrest.ext z3,(K4 gk2 w _ hmem).1.ext z3⟩
  refine oEEEEEEAAAA (ih (k+1) (is++[j]) (ss++[s]) (some (vn k)) (some (.lst ((fx.map pv++s.restP).map VV.imm))) (some (A1 s)) g3 (m+1+1) (by omega) (by omega) (by simp [hl]) (by rw [e03.scr];exact hs) z4 ((hS.ext e03).snoc hsok) (fun t ht=>by
   rcases mA ht with ht | ht
   ·exact (hP t ht).ext e03
   ·simp at ht;subst ht;exact hsp2.ext z3)) fun is' ss' go' par' part' g' w1 w2 w3 w4 w5=>?_
  refine ⟨is',ss',go',par',part',g',?_,by rw [w2];omega,by rw [show m+2*(c+1)=m+1+1+2*c by omega];exact w3,w4,w5⟩
  rw [List.range'_succ,List.map_cons]
  let X:Option VS→Option VS→Option VS→Option VS→Option VS→VL:=fun sg pt rt par part=>Rw ns how w (some (.ownD seen)) (sv (.imm own)) sg pt rt (sv (vn k)) none none par part
  let sg:=some (VS.own (is.map vn))
  let pt:=some (VS.own (ss.map A1))
  let rtv:=some (VS.own (ss.map rV))
  let pr:=some (VS.val (.lst ((fx.map pv++s.restP).map VV.imm)))
  let pa:=some (VS.val (A1 s))
  have s1:VX (AA 60) (.assignT [16,17] (.call (.gl 126) [.loc 1,.loc 2,.loc 5])) (X sg pt rtv (par.map VS.val) (part.map VS.val)) g=some (.next,X sg pt rtv pr pa,g1) :=
   Ce (σ0:=X sg pt rtv (par.map VS.val) (part.map VS.val)) rfl (AH rfl rfl (vs:=[.dd,.tab,Bo w]) rfl q1) rfl
  have s2:VX (AA 60) (.expr (.meth (.loc 10) 0 [.sub (.loc 5) (.call (.gl 115) [.loc 1,.int 12])])) (X sg pt rtv pr pa) g1=some (.next,X sg pt (some (.own ((ss++[s]).map rV))) pr pa,g2):=by
   have:=Ao (C:=AA 60) (i:=10) (a:=.sub (.loc 5) (.call (.gl 115) [.loc 1,.int 12])) (σ:=X sg pt rtv pr pa) (σ0:=X sg pt rtv pr pa) (g:=g1) (g1:=g2) (l:=ss.map rV) (w:=rV s) rfl
    (Af rfl (w:=Bo w) (g1:=g1) (k:=vn x) rfl (AH rfl rfl (vs:=[.dd,vi 12]) rfl x1) (E5 (by rw [List.length_map,K5];decide) (by rw [List.getElem?_map,hi];rfl))) rfl (by simp;omega)
   rw [this,show (ss++[s]).map rV=ss.map rV++[rV s] by simp];rfl
  have s3:VX (AA 60) (.expr (.meth (.loc 9) 0 [.loc 17])) (X sg pt (some (.own ((ss++[s]).map rV))) pr pa) g2=some (.next,X sg (some (.own ((ss++[s]).map A1))) (some (.own ((ss++[s]).map rV))) pr pa,g2):=by
   have:=Ao (C:=AA 60) (i:=9) (a:=.loc 17) (σ:=X sg pt (some (.own ((ss++[s]).map rV))) pr pa) (σ0:=X sg pt (some (.own ((ss++[s]).map rV))) pr pa) (g:=g2) (g1:=g2) (l:=ss.map A1) (w:=A1 s) rfl rfl rfl (by simp;omega)
   rw [this,show (ss++[s]).map A1=ss.map A1++[A1 s] by simp];rfl
  have s4:VX (AA 60) (.expr (.meth (.loc 8) 0 [.call (.gl 111) [.loc 2,.loc 7,.loc 16,.sub (.sub (.loc 10) (.int (-1))) (.int 0)]])) (X sg (some (.own ((ss++[s]).map A1))) (some (.own ((ss++[s]).map rV))) pr pa) g2=some (.next,X (some (.own ((is++[j]).map vn))) (some (.own ((ss++[s]).map A1))) (some (.own ((ss++[s]).map rV))) pr pa,g3):=by
   let σ4:=X sg (some (.own ((ss++[s]).map A1))) (some (.own ((ss++[s]).map rV))) pr pa
   have er:VE (AA 60) (.sub (.loc 10) (.int (-1))) σ4 g2=some (rV s,g2):=by
    have hsub:GG g2 (.lst ((ss++[s]).map rV)) (vi (-1))=some (rV s):=by rw [List.map_append];exact MV (by simp;omega)
    exact UH (o:=.lst ((ss++[s]).map rV)) (g1:=g2) (k:=vi (-1)) rfl rfl hsub
   have er0:VE (AA 60) (.sub (.sub (.loc 10) (.int (-1))) (.int 0)) σ4 g2=some (vi rt,g2):=Af rfl (w:=rV s) (g1:=g2) (k:=vi 0) er rfl rfl
   have:=Ao (C:=AA 60) (i:=8) (a:=.call (.gl 111) [.loc 2,.loc 7,.loc 16,.sub (.sub (.loc 10) (.int (-1))) (.int 0)]) (σ:=σ4) (σ0:=σ4) (g:=g2) (g1:=g3) (l:=is.map vn) (w:=vn j) rfl
    (AH rfl rfl (vs:=[.tab,.imm own,.lst ((fx.map pv++s.restP).map VV.imm),vi rt]) (g1:=g2) (AB (v:=.tab) (g1:=g2) rfl (AB (v:=.imm own) (g1:=g2) rfl (AB (v:=.lst ((fx.map pv++s.restP).map VV.imm)) (g1:=g2) rfl (AB er0 AR)))) ((AAb ho).trans z1)) rfl (by simp;omega)
   rw [this,show (is++[j]).map vn=is.map vn++[vn j] by simp];rfl
  exact Ab (σ1:=X sg pt rtv (par.map VS.val) (part.map VS.val)) rfl (AD s1 (AD s2 (AD s3 (AD s4 AG)))) w1
noncomputable abbrev Y1:List PS:=[.ite (.cmp .NotEq (.loc 14) (.gl 114)) [.store (.loc 6) (.loc 14) (.loc 15)] []]
theorem Q6 (w:Bool) (ns:List Int) (how:Nat) (g:G):AU (Bv (AA 60) Y1) (.many [14,15]) ((SZ w).map fun e=>.imm (.tup [.int e.1,.int (Ap e.2)])) ([sv (.imm (.fl ns)),sv .dd,sv .tab,sv (vn how),sv (vi (mk w)),sv (Bo w),some (.ownD [(8,128),(0,2047)])]++List.replicate 24 none) g
  = some (.next,Rw ns how w (some (.ownD (AZ w))) none none none none none none none none none,g):=by
 cases w<;>kernel_rfl
theorem Oo:Bb=.assign 3 (.call (.gl 115) [.loc 1,.int 16])::.assign 4 (.bin .Mod (.loc 3) (.int 2))::.assign 5 (.call (.gl 124) [.loc 2,.loc 4])::.assign 6 (.dict [(29,128),(35,2047)])::.loop (.many [14,15]) (.loc 5) [.ite (.cmp .NotEq (.loc 14) (.gl 114)) [.store (.loc 6) (.loc 14) (.loc 15)] []]::Bb.drop 5:=rfl
theorem NC:Bb.drop 5=.assign 7 (.ite (.cmp .Eq (.bin .Mod (.bin .FloorDiv (.loc 3) (.int 2)) (.int 2)) (.int 1)) (.tup [.sub (.sub (.attr (.loc 2) 4) (.call (.gl 125) [.loc 2,.str (sO "T")])) (.int 1)]) (.tup []))::.assign 8 (.list [])::.assign 9 (.list [])::.assign 10 (.list [])::.loop (.one 11) (.call (.gl 7) [.bin .Add (.int 2) (.bin .FloorDiv (.loc 3) (.int 12))]) [.assignT [16,17] (.call (.gl 126) [.loc 1,.loc 2,.loc 5]),.expr (.meth (.loc 10) 0 [.sub (.loc 5) (.call (.gl 115) [.loc 1,.int 12])]),.expr (.meth (.loc 9) 0 [.loc 17]),.expr (.meth (.loc 8) 0 [.call (.gl 111) [.loc 2,.loc 7,.loc 16,.sub (.sub (.loc 10) (.int (-1))) (.int 0)]])]::Bb.drop 10:=rfl
theorem NB:Bb.drop 10=[.assign 12 (.call (.gl 127) [.call (.gl 128) [.loc 2],.loc 8,.loc 7]),.ite (.not (.call (.gl 129) [.loc 2,.loc 6,.loc 12,.loc 9,.loc 10,.loc 7,.loc 4])) [.ret (.bool false)] [],.ite (.cmp .NotEq (.call (.gl 127) [.call (.gl 128) [.loc 2],.rev (.loc 8),.loc 7]) (.loc 12)) [.ret (.bool false)] [],.assign 13 (.call (.gl 127) [.call (.gl 128) [.loc 2],.list [.sub (.loc 8) (.int (-1)),.sub (.loc 8) (.int (-1))],.loc 7]),.ret (.call (.gl 129) [.loc 2,.loc 6,.loc 13,.slFrom (.loc 9) (.int (-1)),.slFrom (.loc 10) (.int (-1)),.loc 7,.loc 4])]:=rfl
theorem RW (w:Bool):Bs (Bo w)=some ((SZ w).map fun e=>.imm (.tup [.int e.1,.int (Ap e.2)])):=rfl
set_option maxHeartbeats 1000000 in
theorem V8 {w:Bool} {ns:List Int} {how:Nat} {own:PV} {os:List Int} (ho:own=.tup (os.map .int)) (hop:Ad 5 own=true) {is:List Nat} {ss:List Sg} {go par part:Option VV} {g:G} {m:Nat} (hm:m≤700) (gk:GK m g) (hS:EE own g is ss) (hP:∀ s∈ss,Fd w g s) (hl:ss.length≤10) (hne:ss≠[]) :
  ∃ g',Rt (AA 60) (Bb.drop 10) (Rw ns how w (some (.ownD (AZ w))) (sv (.imm own)) (some (.own (is.map vn))) (some (.own (ss.map A1))) (some (.own (ss.map rV))) (go.map VS.val) none none (par.map VS.val) (part.map VS.val)) g (vb true) g':=by
 have hil:=hS.len
 have hT:=Uv hP
 refine oEEAAA (IS (n:=47) gk (by omega) ho hop hS (by omega) hT (fun j hj=>by obtain ⟨M,hM⟩:=CJ hj;rw [hM];simp)) fun both g1 a1 a2 a3 a4=>?_
 have hP1:=fun s hs=>(hP s hs).ext a2
 have hS1:=hS.ext a2
 have R1:=KG (n:=56) (ss':=ss) a3 ho (fun s=>Iff.rfl) hne (by omega) hP1 hT a4
 refine oEEAAA (IS (n:=47) (is:=is.reverse) (ss:=ss.reverse) a3 (by omega) ho hop hS1.rev (by simp;omega) (by rw [Jh];exact hT) (fun j hj=>by rw [Jh] at hj;rw [FD];obtain ⟨M,hM⟩:=CJ hj;rw [hM];simp)) fun both2 g2 b1 b2 b3 b4=>?_
 have hb:both2=both:=(Jn.uniq b3 (a4.ext b2) b4.rev).symm
 subst hb
 have hS2:=hS1.ext b2
 have hP2:=fun s hs=>(hP1 s hs).ext b2
 obtain ⟨ss0,s,rfl⟩:∃ ss0 s,ss=ss0++[s]:=by
  refine Or.elim (List.eq_nil_or_concat ss) (fun h=>?_) fun z0=>oEE z0 fun l b h=>?_
  ·exact absurd h hne
  ·exact ⟨l,b,by rw [h,List.concat_eq_append]⟩
 obtain ⟨is0,i,rfl⟩:∃ is0 i,is=is0++[i]:=by
  refine Or.elim (List.eq_nil_or_concat is) (fun h=>?_) fun z0=>oEE z0 fun l b h=>?_
  ·rw [h] at hil;simp at hil
  ·exact ⟨l,b,by rw [h,List.concat_eq_append]⟩
 have hlast:=hS2.last
 have hPs:∀ t∈[s,s],Fd w g2 t:=fun t ht=>by
  have:t=s:=by simpa using ht
  subst this
  exact hP2 t (by simp)
 refine oEEAAA (IS (n:=47) (is:=[i,i]) (ss:=[s,s]) b3 (by omega) ho hop (.cons hlast (.cons hlast .nil)) (by simp) (Uv hPs) (fun j hj=>by obtain ⟨M,hM⟩:=CJ hj;rw [hM];simp)) fun both3 g3 c1 c2 c3 c4=>?_
 have R3:=KG (n:=56) (ss:=[s,s]) (ss':=[s]) c3 ho (fun t=>by simp) (by simp) (by simp) (fun t ht=>(hPs t ht).ext c2) (Uv hPs) c4
 refine ⟨g3,?_⟩
 rw [NB]
 let L:Option VS→Option VS→Option VS→Option VS→Option VS→Option VS→VL:=fun seen sg pt rt both twice=>Rw ns how w seen (sv (.imm own)) sg pt rt (go.map VS.val) both twice (par.map VS.val) (part.map VS.val)
 let sgv:VS:=.val (.lst ((is0++[i]).map vn))
 let ptv:VS:=.val (.lst ((ss0++[s]).map A1))
 let rtv:VS:=.val (.lst ((ss0++[s]).map rV))
 let bv:VV:=.imm (.tup (both2.map fun j:Nat=>PV.int j))
 have thin:∀ (σ:VL) (g:G),σ[2]?=some (sv .tab)→VE (AA 60) (.call (.gl 128) [.loc 2]) σ g=some (.host,g):=by
  intro σ g h2
  exact orN (AJ (Pu h2) rfl) (AJ (AB (Kf h2) AR) rfl)
 have e12:(some (VS.own ((is0++[i]).map vn)))=some (VS.own ((is0++[i]).map vn)):=rfl
 refine AF (σ0:=L (some (.ownD (AZ w))) (some sgv) (some (.own ((ss0++[s]).map A1))) (some (.own ((ss0++[s]).map rV))) none none) (w:=bv) (g1:=g1) rfl rfl (AH rfl rfl (vs:=[.host,.lst ((is0++[i]).map vn),.imm own]) (g1:=g) (AB (thin _ g rfl) (AB (v:=.lst ((is0++[i]).map vn)) (g1:=g) rfl (AB (v:=.imm own) (g1:=g) rfl AR))) a1) ?_
 refine As (σ0:=L (sv (.dct (AZ w))) (some sgv) (some ptv) (some rtv) (sv bv) none) (g1:=g1) rfl (v_not (b:=true) (Jp (w:=vb true) rfl (AH rfl rfl (vs:=[.tab,.dct (AZ w),bv,.lst ((ss0++[s]).map A1),.lst ((ss0++[s]).map rV),.imm own,vi (mk w)]) rfl R1) rfl)) ?_
 have NO2:NO (L (sv (.dct (AZ w))) (some sgv) (some ptv) (some rtv) (sv bv) none)=true:=by cases go<;>cases par<;>cases part<;>rfl
 refine As (σ0:=L (sv (.dct (AZ w))) (some sgv) (some ptv) (some rtv) (sv bv) none) (g1:=g2) (AE NO2) (AK (x:=bv) (y:=bv) (AH rfl rfl (vs:=[.host,.lst ((is0++[i]).reverse.map vn),.imm own]) (g1:=g1) (AB (thin _ g1 rfl) (AB (v:=.lst ((is0++[i]).reverse.map vn)) (g1:=g1) ?_ (AB (v:=.imm own) (g1:=g1) rfl AR))) b1) rfl ?_) ?_
 ·rw [List.map_reverse]
  exact Zh (x:=.lst ((is0++[i]).map vn)) (g1:=g1) rfl (if_pos (by simp at hil hl ⊢;omega))
 ·show (YK bv bv).map (!·)=_
  have:bv=.imm (.tup ((both2.map fun j:Nat=>(j:Int)).map .int)):=by show VV.imm _=_;rw [List.map_map];rfl
  rw [this,NZ];simp
 have lastI:∀ g,VE (AA 60) (.sub (.loc 8) (.int (-1))) (L (sv (.dct (AZ w))) (some sgv) (some ptv) (some rtv) (sv bv) none) g=some (vn i,g):=fun g =>
  Af rfl (w:=.lst ((is0++[i]).map vn)) (g1:=g) (k:=vi (-1)) rfl rfl (by rw [show (is0++[i]).map vn=is0.map vn++[vn i] by simp];exact MV (by simp at hil hl ⊢;omega))
 refine AF (σ0:=L (sv (.dct (AZ w))) (some sgv) (some ptv) (some rtv) (sv bv) none) (w:=.imm (.tup (both3.map fun j:Nat=>PV.int j))) (g1:=g3) (AE NO2) rfl (AH rfl rfl (vs:=[.host,.lst ([i,i].map vn),.imm own]) (g1:=g2) (AB (thin _ g2 rfl) (AB (UI (AB (lastI g2) (AB (lastI g2) AR))) (AB (v:=.imm own) (g1:=g2) rfl AR))) c1) ?_
 let σF:VL:=L (sv (.dct (AZ w))) (some sgv) (some ptv) (some rtv) (sv bv) (sv (.imm (.tup (both3.map fun j:Nat=>PV.int j))))
 have NOF:NO σF=true:=by cases go<;>cases par<;>cases part<;>rfl
 have slF:∀ (f:Sg→VV),LB (.lst ((ss0++[s]).map f)) (vi (-1))=some (.lst ([s].map f)):=fun f=>by
  refine (if_pos ⟨rfl,by simp,by simp at hl ⊢;omega⟩).trans ?_
  simp
 refine AS (σ0:=σF) (AE NOF) (AH rfl rfl (vs:=[.tab,.dct (AZ w),.imm (.tup (both3.map fun j:Nat=>PV.int j)),.lst ([s].map A1),.lst ([s].map rV),.imm own,vi (mk w)]) (g1:=g3) ?_ R3)
 refine AB (v:=.tab) (g1:=g3) rfl (AB (v:=.dct (AZ w)) (g1:=g3) rfl (AB (v:=.imm (.tup (both3.map fun j:Nat=>PV.int j))) (g1:=g3) rfl (AB (v:=.lst ([s].map A1)) (g1:=g3) ?_ (AB (v:=.lst ([s].map rV)) (g1:=g3) ?_ (AB (v:=.imm own) (g1:=g3) rfl (AB (v:=vi (mk w)) (g1:=g3) rfl AR))))))
 ·exact Nb (x:=.lst ((ss0++[s]).map A1)) (g1:=g3) (y:=vi (-1)) rfl rfl (slF _)
 ·exact Nb (x:=.lst ((ss0++[s]).map rV)) (g1:=g3) (y:=vi (-1)) rfl rfl (slF _)
theorem law_V (ns:List Int) (hns:ns.length≤63):∃ σ g,Bv (AA 60) Bb (σ0 ns) { rows:=Au,pos:=0,scr:=ns.take 40 }=some (.ret (.imm (.bool true)),σ,g):=by
 suffices h:∃ g',Rt (AA 60) Bb (σ0 ns) { rows:=Au,pos:=0,scr:=ns.take 40 } (vb true) g' by
  refine oEE h fun g' σ h=>?_
  exact ⟨σ,g',h⟩
 refine oEEAAA (GF (n:=59) (g:={ rows:=Au,pos:=0,scr:=ns.take 40 }) (k:=16) (by decide) (by simp;omega)) fun how g1 p1 p2 p3 p4=>?_
 obtain ⟨rows,p,s,k⟩:=g1
 simp only at p4
 subst p4
 have hsl:s.length≤100000:=by have:=p3.scr;simp only at this;rw [this];simp;omega
 have hk:k=0:=p3.np
 obtain ⟨w,hw⟩:∃ w:Bool,vn (how%2)=vi (mk w):=by
  by_cases h:how%2=1
  ·exact ⟨true,by rw [h];rfl⟩
  ·exact ⟨false,by rw [show how%2=0 by omega];rfl⟩
 let E:List (Option VS)→VL:=fun l=>[sv (.imm (.fl ns)),sv .dd,sv .tab]++l
 have start:∀ g',Rt (AA 60) (Bb.drop 5) (Rw ns how w (some (.ownD (AZ w))) none none none none none none none none none) ⟨Aa,p,s,k⟩ (vb true) g'→Rt (AA 60) Bb (σ0 ns) { rows:=Au,pos:=0,scr:=ns.take 40 } (vb true) g':=by
  intro g' h
  rw [Oo]
  refine AF (σ0:=σ0 ns) (w:=vn how) (g1:=W6 p s k) (AE rfl) DP (AH rfl rfl (vs:=[.dd,vi 16]) rfl p1) ?_
  refine AF (σ0:=E ([sv (vn how)]++List.replicate 27 none)) (w:=vi (mk w)) (g1:=W6 p s k) (AE rfl) rfl (by rw [←hw];exact Aj (x:=vn how) (y:=vi 2) (g1:=W6 p s k) (g2:=W6 p s k) rfl rfl (CZ (b:=2) (by decide))) ?_
  refine AF (σ0:=E ([sv (vn how),sv (vi (mk w))]++List.replicate 26 none)) (w:=Bo w) (g1:=⟨Aa,p,s,k⟩) (AE rfl) rfl (AH rfl rfl (vs:=[.tab,vi (mk w)]) rfl (VD (n:=57) w p s k)) ?_
  refine Av (σ1:=E ([sv (vn how),sv (vi (mk w)),sv (Bo w),some (.ownD [(8,128),(0,2047)])]++List.replicate 24 none)) (g1:=⟨Aa,p,s,k⟩) (by rfl) ?_
  have hl:=Q6 w ns how ⟨Aa,p,s,k⟩
  refine Ai (σ0:=[sv (.imm (.fl ns)),sv .dd,sv .tab,sv (vn how),sv (vi (mk w)),sv (Bo w),some (.ownD [(8,128),(0,2047)])]++List.replicate 24 none) (g1:=⟨Aa,p,s,k⟩) (w:=Bo w) ?_ ?_ (RW w) ?_ h
  ·rfl
  ·rfl
  ·exact hl
 let σ5:VL:=Rw ns how w (some (.ownD (AZ w))) none none none none none none none none none
 have econd:VT (AA 60) (.cmp .Eq (.bin .Mod (.bin .FloorDiv (.loc 3) (.int 2)) (.int 2)) (.int 1)) (VE (AA 60) (.cmp .Eq (.bin .Mod (.bin .FloorDiv (.loc 3) (.int 2)) (.int 2)) (.int 1))) σ5 ⟨Aa,p,s,k⟩=some (decide (how / 2%2=1),⟨Aa,p,s,k⟩) :=
  AK (x:=vn (how / 2%2)) (y:=vi 1) (g1:=⟨Aa,p,s,k⟩) (g2:=⟨Aa,p,s,k⟩) (Aj (x:=vn (how / 2)) (y:=vi 2) (g1:=⟨Aa,p,s,k⟩) (g2:=⟨Aa,p,s,k⟩) (Aj (x:=vn how) (y:=vi 2) (g1:=⟨Aa,p,s,k⟩) (g2:=⟨Aa,p,s,k⟩) rfl rfl (Gx (b:=2) (by decide) (by omega) (by decide))) rfl (CZ (b:=2) (by decide))) rfl (Ak (by rw [decide_eq_decide];omega))
 have fz5:fz (locs (.ite (.cmp .Eq (.bin .Mod (.bin .FloorDiv (.loc 3) (.int 2)) (.int 2)) (.int 1)) (.tup [.sub (.sub (.attr (.loc 2) 4) (.call (.gl 125) [.loc 2,.str (sO "T")])) (.int 1)]) (.tup []))) σ5=σ5:=rfl
 have ownS:∃ (os:List Int) (g2:G),VE (AA 60) (.ite (.cmp .Eq (.bin .Mod (.bin .FloorDiv (.loc 3) (.int 2)) (.int 2)) (.int 1)) (.tup [.sub (.sub (.attr (.loc 2) 4) (.call (.gl 125) [.loc 2,.str (sO "T")])) (.int 1)]) (.tup [])) σ5 ⟨Aa,p,s,k⟩=some (.imm (.tup (os.map .int)),g2)∧GK 19 g2∧g2.scr=s:=by
  by_cases hc:how / 2%2=1
  ·rw [decide_eq_true hc] at econd
   have gk1:GK 18 (⟨Aa,p,s,k+1⟩:G):=Qa
   refine oEEAAAA (GJ gk1 (by omega) (r:=.tup [.int 10,.int k]) rfl rfl fun h=>by cases h) fun i g2 q1 q2 q3 q4 _=>?_
   refine ⟨[(k:Int)],g2,A9 (t:=true) (g1:=⟨Aa,p,s,k⟩) econd (CL (vs:=[vn k]) (AB (v:=vn k) (g1:=g2) (Af rfl (w:=.imm (.tup [.int 10,.int k])) (g1:=g2) (k:=vi 1) (Af rfl (w:=.rws) (g1:=⟨Aa,p,s,k⟩) (k:=vn i) rfl (AH rfl rfl (vs:=[.tab,.imm (.str (sO "T"))]) (g1:=⟨Aa,p,s,k⟩) rfl ?_) (Az q2)) rfl rfl) AR)),q4,q3.scr⟩
   show (if (59:Nat)≠0∧k≤1000 then Br _ _ else none)=_
   rw [if_pos ⟨by decide,by rw [hk];decide⟩]
   exact q1
  ·rw [decide_eq_false hc] at econd
   exact ⟨[],⟨Aa,p,s,k⟩,A9 (t:=false) (g1:=⟨Aa,p,s,k⟩) econd rfl,Qa.up (by omega),rfl⟩
 refine oEEAA ownS fun os g2 o1 o2 o3=>?_
 let own:PV:=.tup (os.map .int)
 have hop:Ad 5 own=true:=by show (os.map PV.int).all (Ad 4)=true;exact Bj os 4
 refine oEEEEEEAAAA (Tq (w:=w) (ns:=ns) (how:=how) (seen:=AZ w) (own:=own) rfl hop (2+how / 12) 0 [] [] none none none g2 19 (by omega) (by omega) rfl (by rw [o3];exact hsl) o2 .nil (fun s hs=>by cases hs)) fun is ss go par part g3 l1 l2 l3 l4 l5=>?_
 refine oE (V8 (ns:=ns) (how:=how) (go:=go) (par:=par) (part:=part) rfl hop (m:=19+2*(2+how / 12)) (by omega) l3 l4 l5 (by omega) (by intro e;rw [e] at l2;simp at l2;omega)) fun g' hend=>?_
 refine ⟨g',start g' ?_⟩
 rw [NC]
 refine AF (σ0:=σ5) (w:=.imm own) (g1:=g2) fz5 rfl o1 ?_
 refine B5 (σ0:=Rw ns how w (some (.ownD (AZ w))) (sv (.imm own)) none none none none none none none none) rfl rfl ?_
 refine B5 (σ0:=Rw ns how w (some (.ownD (AZ w))) (sv (.imm own)) (some (.own [])) none none none none none none none) rfl rfl ?_
 refine B5 (σ0:=Rw ns how w (some (.ownD (AZ w))) (sv (.imm own)) (some (.own [])) (some (.own [])) none none none none none none) rfl rfl ?_
 refine Ai (σ0:=Rw ns how w (some (.ownD (AZ w))) (sv (.imm own)) (some (.own [])) (some (.own [])) (some (.own [])) none none none none none) (w:=.imm (.rng 0 ((2+how / 12:Nat):Int))) (g1:=g2) rfl (BH rfl rfl (vs:=[vn (2+how / 12)]) (AB (Aj (x:=vi 2) (y:=vn (how / 12)) (g1:=g2) (g2:=g2) rfl (Aj (x:=vn how) (y:=vi 12) (g1:=g2) (g2:=g2) rfl rfl (Gx (b:=12) (by decide) (by omega) (by decide))) (by show some (vi ((2:Int)+((how / 12:Nat):Int)))=_;congr 3)) AR) rfl) (A2 (by omega)) l1 hend
end
end Mine.V
end
section
namespace Mine
open PySem PySem.W PyProof.Rows PySem.Spec
open scoped Classical
noncomputable def Gm:List Addr:=[103,117,449,456,139,147,155,162,169,176,182,191,199,206,213,220,227,234,241,246,251,258,265,272,305,312,369,376,390,397,404,409,416,423,428,435,589,596,601,608,613,620,627,632,639,646,653,660,667,672,677,684,691,698,705,712,719,726,733,740,747,754,761,766,771,776]
noncomputable def Lw:List Addr:=[120,578]
noncomputable def Zn:GA:=⟨gnl,YY⟩
noncomputable def Dm:List Str:=[(sO "tab"),(sO "text"),(sO "fresh")]
theorem Op (P:Params):(Gn Zn (KK P) UX Be Dm Ob 139&&Ih (KK P) Gm Lw Be.dflt (Ax (KK P) 139))=true:=by kernel_rfl
theorem MA (P:Params) (S:Setting) (v0 v1:Value):BE (KK P) 139 S [v0,v1]=some (Dm.zip ([v0,v1]++(Ax (KK P) 139).drop 0)):=by kernel_rfl
theorem L9 (P:Params) (S:Setting) (v0 v1 v2:Value):BE (KK P) 139 S [v0,v1,v2]=some (Dm.zip ([v0,v1,v2]++(Ax (KK P) 139).drop 1)):=by kernel_rfl
noncomputable def Dn:List Str:=[(sO "tab"),(sO "n"),(sO "fresh")]
theorem Os (P:Params):(Gn Zn (KK P) UX Bg Dn Od 147&&Ih (KK P) Gm Lw Bg.dflt (Ax (KK P) 147))=true:=by kernel_rfl
theorem MF (P:Params) (S:Setting) (v0 v1:Value):BE (KK P) 147 S [v0,v1]=some (Dn.zip ([v0,v1]++(Ax (KK P) 147).drop 0)):=by kernel_rfl
theorem ME (P:Params) (S:Setting) (v0 v1 v2:Value):BE (KK P) 147 S [v0,v1,v2]=some (Dn.zip ([v0,v1,v2]++(Ax (KK P) 147).drop 1)):=by kernel_rfl
noncomputable def CV:List Str:=[(sO "tab"),(sO "elem"),(sO "ro")]
theorem LV (P:Params):(Gn Zn (KK P) UX BD CV LN 155&&Ih (KK P) Gm Lw BD.dflt (Ax (KK P) 155))=true:=by kernel_rfl
theorem Jf (P:Params) (S:Setting) (v0 v1:Value):BE (KK P) 155 S [v0,v1]=some (CV.zip ([v0,v1]++(Ax (KK P) 155).drop 0)):=by kernel_rfl
theorem Je (P:Params) (S:Setting) (v0 v1 v2:Value):BE (KK P) 155 S [v0,v1,v2]=some (CV.zip ([v0,v1,v2]++(Ax (KK P) 155).drop 1)):=by kernel_rfl
noncomputable def CU:List Str:=[(sO "tab"),(sO "elems"),(sO "ro")]
theorem LU (P:Params):(Gn Zn (KK P) UX At CU LM 182&&Ih (KK P) Gm Lw At.dflt (Ax (KK P) 182))=true:=by kernel_rfl
theorem Jd (P:Params) (S:Setting) (v0 v1:Value):BE (KK P) 182 S [v0,v1]=some (CU.zip ([v0,v1]++(Ax (KK P) 182).drop 0)):=by kernel_rfl
theorem Jc (P:Params) (S:Setting) (v0 v1 v2:Value):BE (KK P) 182 S [v0,v1,v2]=some (CU.zip ([v0,v1,v2]++(Ax (KK P) 182).drop 1)):=by kernel_rfl
noncomputable def Cn:List Str:=[(sO "tab"),(sO "tparams"),(sO "params"),(sO "ret"),(sO "pred"),(sO "flags")]
theorem Oq (P:Params):(Gn Zn (KK P) UX Bf Cn Oc 191&&Ih (KK P) Gm Lw Bf.dflt (Ax (KK P) 191))=true:=by kernel_rfl
theorem MD (P:Params) (S:Setting) (v0 v1 v2 v3:Value):BE (KK P) 191 S [v0,v1,v2,v3]=some (Cn.zip ([v0,v1,v2,v3]++(Ax (KK P) 191).drop 0)):=by kernel_rfl
theorem MC (P:Params) (S:Setting) (v0 v1 v2 v3 v4:Value):BE (KK P) 191 S [v0,v1,v2,v3,v4]=some (Cn.zip ([v0,v1,v2,v3,v4]++(Ax (KK P) 191).drop 1)):=by kernel_rfl
theorem MB (P:Params) (S:Setting) (v0 v1 v2 v3 v4 v5:Value):BE (KK P) 191 S [v0,v1,v2,v3,v4,v5]=some (Cn.zip ([v0,v1,v2,v3,v4,v5]++(Ax (KK P) 191).drop 2)):=by kernel_rfl
noncomputable def CH:List Str:=[(sO "tab"),(sO "name"),(sO "bound"),(sO "default")]
theorem NI (P:Params):(Gn Zn (KK P) UX BB CH Mx 199&&Ih (KK P) Gm Lw BB.dflt (Ax (KK P) 199))=true:=by kernel_rfl
theorem J2 (P:Params) (S:Setting) (v0 v1:Value):BE (KK P) 199 S [v0,v1]=some (CH.zip ([v0,v1]++(Ax (KK P) 199).drop 0)):=by kernel_rfl
theorem J1 (P:Params) (S:Setting) (v0 v1 v2:Value):BE (KK P) 199 S [v0,v1,v2]=some (CH.zip ([v0,v1,v2]++(Ax (KK P) 199).drop 1)):=by kernel_rfl
theorem J0 (P:Params) (S:Setting) (v0 v1 v2 v3:Value):BE (KK P) 199 S [v0,v1,v2,v3]=some (CH.zip ([v0,v1,v2,v3]++(Ax (KK P) 199).drop 2)):=by kernel_rfl
end Mine
end
section
namespace Mine
open PySem PySem.W PyProof.Rows PySem.Spec
open scoped Classical
noncomputable def AW (prog:Program) (w:World) (B:Heap):Cx:={ prog:=prog,w:=w,K:=KK w.params,B:=B,fnV:=fun i=>Gm[i]?,clsV:=fun i=>Lw[i]?,an:=YY }
theorem WE (P:Params):glB (KK P) Gm Lw (gnl.zip Ra)=true:=by kernel_rfl
theorem Ri (P:Params):YP (KK P) 120=true:=by kernel_rfl
theorem Rh (P:Params):YP (KK P) 578=true:=by kernel_rfl
theorem Nu (P:Params):([4,5,6,7,8,9,10,11,12,13]:List Nat).all (fun a=>match YY[a]? with | some n=>Uk (KK P) 120 n | none=>false)=true:=by kernel_rfl
theorem Nt (P:Params):([14,15,16,17,18]:List Nat).all (fun a=>match YY[a]? with | some n=>Uk (KK P) 578 n | none=>false)=true:=by kernel_rfl
theorem RM (P:Params):Td (KK P) 120 (sO "put") 117=true:=by kernel_rfl
theorem RL (P:Params):Td (KK P) 578 (sO "force") 456=true:=by kernel_rfl
theorem RZ (P:Params):(makesIn (KK P) 120&&Td (KK P) 120 (sO "__init__") 103)=true:=by kernel_rfl
theorem RY (P:Params):(makesIn (KK P) 578&&Td (KK P) 578 (sO "__init__") 449)=true:=by kernel_rfl
noncomputable def Good (c:Cx) (f:Fn) (a:Addr):Prop:=(∃ o fd body names Γ dv,Ql c Zn f a o fd body names Γ dv)∧keepIn c.K (.ref a)=true
section
variable {prog:Program} {w:World} {B:Heap}
theorem good0 (KB:BJ w B) {f:Fn} {a:Addr} {m:Nat} (p:List Str) (n:List (Str×Nat)) (k:(Gn Zn (KK w.params) UX f p n a&&Ih (KK w.params) Gm Lw f.dflt (Ax (KK w.params) a))=true) (e1:f.np=m) (e2:f.dflt.length=0) (b:∀ (S:Setting) (vs:List Value),vs.length=m→BE (KK w.params) a S vs=some (p.zip vs)):Good (AW prog w B) f a:=by
 have k:=Bool.and_eq_true_iff.mp k
 have hl:(Ax (KK w.params) a).length=0:=by rw [←e2];exact (DI (c:=AW prog w B) (fun _=>rfl) (fun _=>rfl) KB.1 _ _ k.2).length
 refine ⟨Fw (c:=AW prog w B) (fun _=>rfl) (fun _=>rfl) KB.1 KB.2 k.1 k.2 fun vs l1 l2 S=>?_,Dq k.1⟩
 have hd:Ax (KK w.params) a=[]:=List.length_eq_zero_iff.mp hl
 have:=b S vs (by omega)
 show BE (KK w.params) a S vs=some (p.zip (vs++(Ax (KK w.params) a).drop ((Ax (KK w.params) a).length-(f.np-vs.length))))
 rw [hd]
 simpa using this
theorem UC (KB:BJ w B):Good (AW prog w B) Gr 103:=good0 KB ((M2.map (·.1)).take 1) M2 (by kernel_rfl) rfl rfl fun S=>Cp fun _=>by kernel_rfl
theorem WH (KB:BJ w B):Good (AW prog w B) Gq 117:=good0 KB ((QB.map (·.1)).take 2) QB (by kernel_rfl) rfl rfl fun S=>BX fun _ _=>by kernel_rfl
theorem UD (KB:BJ w B):Good (AW prog w B) Gs 449:=good0 KB ((M3.map (·.1)).take 2) M3 (by kernel_rfl) rfl rfl fun S=>BX fun _ _=>by kernel_rfl
theorem Rd (KB:BJ w B):Good (AW prog w B) HI 456:=good0 KB ((KT.map (·.1)).take 2) KT (by kernel_rfl) rfl rfl fun S=>BX fun _ _=>by kernel_rfl
theorem Ox (KB:BJ w B):Good (AW prog w B) Be 139:=by
 have k:=Bool.and_eq_true_iff.mp (Op w.params)
 have hl:(Ax (KK w.params) 139).length=1:=(DI (c:=AW prog w B) (fun _=>rfl) (fun _=>rfl) KB.1 _ _ k.2).length
 refine ⟨Fw (c:=AW prog w B) (fun _=>rfl) (fun _=>rfl) KB.1 KB.2 k.1 k.2 fun vs l1 l2 S=>?_,Dq k.1⟩
 have e1:Be.np=3:=rfl
 have e2:Be.dflt.length=1:=rfl
 rw [e1] at l1 l2;rw [e2] at l2
 show BE (KK w.params) 139 S vs=some (Dm.zip (vs++(Ax (KK w.params) 139).drop ((Ax (KK w.params) 139).length-(3-vs.length))))
 rw [hl]
 have h3:vs.length=2∨vs.length=3:=by omega
 rcases h3 with h3 | h3
 ·clear l1 l2;revert vs;refine BX ?_;intro v0 v1
  exact MA w.params S v0 v1
 ·clear l1 l2;revert vs;refine C4 ?_;intro v0 v1 v2
  exact L9 w.params S v0 v1 v2
theorem O5 (KB:BJ w B):Good (AW prog w B) Bg 147:=by
 have k:=Bool.and_eq_true_iff.mp (Os w.params)
 have hl:(Ax (KK w.params) 147).length=1:=(DI (c:=AW prog w B) (fun _=>rfl) (fun _=>rfl) KB.1 _ _ k.2).length
 refine ⟨Fw (c:=AW prog w B) (fun _=>rfl) (fun _=>rfl) KB.1 KB.2 k.1 k.2 fun vs l1 l2 S=>?_,Dq k.1⟩
 have e1:Bg.np=3:=rfl
 have e2:Bg.dflt.length=1:=rfl
 rw [e1] at l1 l2;rw [e2] at l2
 show BE (KK w.params) 147 S vs=some (Dn.zip (vs++(Ax (KK w.params) 147).drop ((Ax (KK w.params) 147).length-(3-vs.length))))
 rw [hl]
 have h3:vs.length=2∨vs.length=3:=by omega
 rcases h3 with h3 | h3
 ·clear l1 l2;revert vs;refine BX ?_;intro v0 v1
  exact MF w.params S v0 v1
 ·clear l1 l2;revert vs;refine C4 ?_;intro v0 v1 v2
  exact ME w.params S v0 v1 v2
theorem Lk (KB:BJ w B):Good (AW prog w B) BD 155:=by
 have k:=Bool.and_eq_true_iff.mp (LV w.params)
 have hl:(Ax (KK w.params) 155).length=1:=(DI (c:=AW prog w B) (fun _=>rfl) (fun _=>rfl) KB.1 _ _ k.2).length
 refine ⟨Fw (c:=AW prog w B) (fun _=>rfl) (fun _=>rfl) KB.1 KB.2 k.1 k.2 fun vs l1 l2 S=>?_,Dq k.1⟩
 have e1:BD.np=3:=rfl
 have e2:BD.dflt.length=1:=rfl
 rw [e1] at l1 l2;rw [e2] at l2
 show BE (KK w.params) 155 S vs=some (CV.zip (vs++(Ax (KK w.params) 155).drop ((Ax (KK w.params) 155).length-(3-vs.length))))
 rw [hl]
 have h3:vs.length=2∨vs.length=3:=by omega
 rcases h3 with h3 | h3
 ·clear l1 l2;revert vs;refine BX ?_;intro v0 v1
  exact Jf w.params S v0 v1
 ·clear l1 l2;revert vs;refine C4 ?_;intro v0 v1 v2
  exact Je w.params S v0 v1 v2
theorem NU (KB:BJ w B):Good (AW prog w B) Er 162:=good0 KB ((Hj.map (·.1)).take 2) Hj (by kernel_rfl) rfl rfl fun S=>BX fun _ _=>by kernel_rfl
theorem HF (KB:BJ w B):Good (AW prog w B) B8 169:=good0 KB ((DZ.map (·.1)).take 2) DZ (by kernel_rfl) rfl rfl fun S=>BX fun _ _=>by kernel_rfl
theorem O4 (KB:BJ w B):Good (AW prog w B) Fq 176:=good0 KB ((Iq.map (·.1)).take 3) Iq (by kernel_rfl) rfl rfl fun S=>C4 fun _ _ _=>by kernel_rfl
theorem LX (KB:BJ w B):Good (AW prog w B) At 182:=by
 have k:=Bool.and_eq_true_iff.mp (LU w.params)
 have hl:(Ax (KK w.params) 182).length=1:=(DI (c:=AW prog w B) (fun _=>rfl) (fun _=>rfl) KB.1 _ _ k.2).length
 refine ⟨Fw (c:=AW prog w B) (fun _=>rfl) (fun _=>rfl) KB.1 KB.2 k.1 k.2 fun vs l1 l2 S=>?_,Dq k.1⟩
 have e1:At.np=3:=rfl
 have e2:At.dflt.length=1:=rfl
 rw [e1] at l1 l2;rw [e2] at l2
 show BE (KK w.params) 182 S vs=some (CU.zip (vs++(Ax (KK w.params) 182).drop ((Ax (KK w.params) 182).length-(3-vs.length))))
 rw [hl]
 have h3:vs.length=2∨vs.length=3:=by omega
 rcases h3 with h3 | h3
 ·clear l1 l2;revert vs;refine BX ?_;intro v0 v1
  exact Jd w.params S v0 v1
 ·clear l1 l2;revert vs;refine C4 ?_;intro v0 v1 v2
  exact Jc w.params S v0 v1 v2
theorem Oy (KB:BJ w B):Good (AW prog w B) Bf 191:=by
 have k:=Bool.and_eq_true_iff.mp (Oq w.params)
 have hl:(Ax (KK w.params) 191).length=2:=(DI (c:=AW prog w B) (fun _=>rfl) (fun _=>rfl) KB.1 _ _ k.2).length
 refine ⟨Fw (c:=AW prog w B) (fun _=>rfl) (fun _=>rfl) KB.1 KB.2 k.1 k.2 fun vs l1 l2 S=>?_,Dq k.1⟩
 have e1:Bf.np=6:=rfl
 have e2:Bf.dflt.length=2:=rfl
 rw [e1] at l1 l2;rw [e2] at l2
 show BE (KK w.params) 191 S vs=some (Cn.zip (vs++(Ax (KK w.params) 191).drop ((Ax (KK w.params) 191).length-(6-vs.length))))
 rw [hl]
 have h3:vs.length=4∨vs.length=5∨vs.length=6:=by omega
 rcases h3 with h3 | h3 | h3
 ·clear l1 l2;revert vs;refine RS ?_;intro v0 v1 v2 v3
  exact MD w.params S v0 v1 v2 v3
 ·clear l1 l2;revert vs;refine V7 ?_;intro v0 v1 v2 v3 v4
  exact MC w.params S v0 v1 v2 v3 v4
 ·clear l1 l2;revert vs;refine ZK ?_;intro v0 v1 v2 v3 v4 v5
  exact MB w.params S v0 v1 v2 v3 v4 v5
theorem NP (KB:BJ w B):Good (AW prog w B) BB 199:=by
 have k:=Bool.and_eq_true_iff.mp (NI w.params)
 have hl:(Ax (KK w.params) 199).length=2:=(DI (c:=AW prog w B) (fun _=>rfl) (fun _=>rfl) KB.1 _ _ k.2).length
 refine ⟨Fw (c:=AW prog w B) (fun _=>rfl) (fun _=>rfl) KB.1 KB.2 k.1 k.2 fun vs l1 l2 S=>?_,Dq k.1⟩
 have e1:BB.np=4:=rfl
 have e2:BB.dflt.length=2:=rfl
 rw [e1] at l1 l2;rw [e2] at l2
 show BE (KK w.params) 199 S vs=some (CH.zip (vs++(Ax (KK w.params) 199).drop ((Ax (KK w.params) 199).length-(4-vs.length))))
 rw [hl]
 have h3:vs.length=2∨vs.length=3∨vs.length=4:=by omega
 rcases h3 with h3 | h3 | h3
 ·clear l1 l2;revert vs;refine BX ?_;intro v0 v1
  exact J2 w.params S v0 v1
 ·clear l1 l2;revert vs;refine C4 ?_;intro v0 v1 v2
  exact J1 w.params S v0 v1 v2
 ·clear l1 l2;revert vs;refine RS ?_;intro v0 v1 v2 v3
  exact J0 w.params S v0 v1 v2 v3
theorem Oz (KB:BJ w B):Good (AW prog w B) Fp 206:=good0 KB ((Io.map (·.1)).take 2) Io (by kernel_rfl) rfl rfl fun S=>BX fun _ _=>by kernel_rfl
theorem JM (KB:BJ w B):Good (AW prog w B) Cq 213:=good0 KB ((Ee.map (·.1)).take 1) Ee (by kernel_rfl) rfl rfl fun S=>Cp fun _=>by kernel_rfl
theorem JO (KB:BJ w B):Good (AW prog w B) Cs 220:=good0 KB ((Eg.map (·.1)).take 2) Eg (by kernel_rfl) rfl rfl fun S=>BX fun _ _=>by kernel_rfl
theorem Li (KB:BJ w B):Good (AW prog w B) CY 227:=good0 KB ((Ga.map (·.1)).take 1) Ga (by kernel_rfl) rfl rfl fun S=>Cp fun _=>by kernel_rfl
theorem JN (KB:BJ w B):Good (AW prog w B) Cr 234:=good0 KB ((Ef.map (·.1)).take 3) Ef (by kernel_rfl) rfl rfl fun S=>C4 fun _ _ _=>by kernel_rfl
theorem T7 (KB:BJ w B):Good (AW prog w B) JR 241:=good0 KB ((Mw.map (·.1)).take 1) Mw (by kernel_rfl) rfl rfl fun S=>Cp fun _=>by kernel_rfl
theorem WF (KB:BJ w B):Good (AW prog w B) Gp 246:=good0 KB ((P9.map (·.1)).take 2) P9 (by kernel_rfl) rfl rfl fun S=>BX fun _ _=>by kernel_rfl
theorem NM (KB:BJ w B):Good (AW prog w B) Em 251:=good0 KB ((HW.map (·.1)).take 3) HW (by kernel_rfl) rfl rfl fun S=>C4 fun _ _ _=>by kernel_rfl
theorem NW (KB:BJ w B):Good (AW prog w B) Et 258:=good0 KB ((Hl.map (·.1)).take 2) Hl (by kernel_rfl) rfl rfl fun S=>BX fun _ _=>by kernel_rfl
theorem Lj (KB:BJ w B):Good (AW prog w B) D9 265:=good0 KB ((Gb.map (·.1)).take 2) Gb (by kernel_rfl) rfl rfl fun S=>BX fun _ _=>by kernel_rfl
theorem Rc (KB:BJ w B):Good (AW prog w B) HH 272:=good0 KB ((KS.map (·.1)).take 2) KS (by kernel_rfl) rfl rfl fun S=>BX fun _ _=>by kernel_rfl
theorem UB (KB:BJ w B):Good (AW prog w B) JV 305:=good0 KB ((M1.map (·.1)).take 2) M1 (by kernel_rfl) rfl rfl fun S=>BX fun _ _=>by kernel_rfl
theorem FN (KB:BJ w B):Good (AW prog w B) BR 312:=good0 KB ((CR.map (·.1)).take 1) CR (by kernel_rfl) rfl rfl fun S=>Cp fun _=>by kernel_rfl
theorem JP (KB:BJ w B):Good (AW prog w B) Cv 369:=good0 KB ((Eh.map (·.1)).take 4) Eh (by kernel_rfl) rfl rfl fun S=>RS fun _ _ _ _=>by kernel_rfl
theorem Jv (KB:BJ w B):Good (AW prog w B) DM 376:=good0 KB ((FT.map (·.1)).take 5) FT (by kernel_rfl) rfl rfl fun S=>V7 fun _ _ _ _ _=>by kernel_rfl
theorem NQ (KB:BJ w B):Good (AW prog w B) Eo 390:=good0 KB ((HX.map (·.1)).take 3) HX (by kernel_rfl) rfl rfl fun S=>C4 fun _ _ _=>by kernel_rfl
theorem T9 (KB:BJ w B):Good (AW prog w B) JT 397:=good0 KB ((Mz.map (·.1)).take 3) Mz (by kernel_rfl) rfl rfl fun S=>C4 fun _ _ _=>by kernel_rfl
theorem Gl (KB:BJ w B):Good (AW prog w B) Bu 404:=good0 KB ((DA.map (·.1)).take 2) DA (by kernel_rfl) rfl rfl fun S=>BX fun _ _=>by kernel_rfl
theorem Lg (KB:BJ w B):Good (AW prog w B) D0 409:=good0 KB ((GY.map (·.1)).take 3) GY (by kernel_rfl) rfl rfl fun S=>C4 fun _ _ _=>by kernel_rfl
theorem O6 (KB:BJ w B):Good (AW prog w B) Cu 416:=good0 KB ((Ir.map (·.1)).take 3) Ir (by kernel_rfl) rfl rfl fun S=>C4 fun _ _ _=>by kernel_rfl
theorem WG (KB:BJ w B):Good (AW prog w B) IG 423:=good0 KB ((QA.map (·.1)).take 2) QA (by kernel_rfl) rfl rfl fun S=>BX fun _ _=>by kernel_rfl
theorem LY (KB:BJ w B):Good (AW prog w B) Du 428:=good0 KB ((GP.map (·.1)).take 1) GP (by kernel_rfl) rfl rfl fun S=>Cp fun _=>by kernel_rfl
theorem LZ (KB:BJ w B):Good (AW prog w B) Dv 435:=good0 KB ((GQ.map (·.1)).take 1) GQ (by kernel_rfl) rfl rfl fun S=>Cp fun _=>by kernel_rfl
theorem NV (KB:BJ w B):Good (AW prog w B) Es 589:=good0 KB ((Hk.map (·.1)).take 2) Hk (by kernel_rfl) rfl rfl fun S=>BX fun _ _=>by kernel_rfl
theorem Jt (KB:BJ w B):Good (AW prog w B) DK 596:=good0 KB ((FQ.map (·.1)).take 1) FQ (by kernel_rfl) rfl rfl fun S=>Cp fun _=>by kernel_rfl
theorem Lh (KB:BJ w B):Good (AW prog w B) D8 601:=good0 KB ((GZ.map (·.1)).take 2) GZ (by kernel_rfl) rfl rfl fun S=>BX fun _ _=>by kernel_rfl
theorem Lb (KB:BJ w B):Good (AW prog w B) Dw 608:=good0 KB ((GT.map (·.1)).take 2) GT (by kernel_rfl) rfl rfl fun S=>BX fun _ _=>by kernel_rfl
theorem Jy (KB:BJ w B):Good (AW prog w B) DO 613:=good0 KB ((FW.map (·.1)).take 1) FW (by kernel_rfl) rfl rfl fun S=>Cp fun _=>by kernel_rfl
theorem Ow (KB:BJ w B):Good (AW prog w B) Fo 620:=good0 KB ((Im.map (·.1)).take 3) Im (by kernel_rfl) rfl rfl fun S=>C4 fun _ _ _=>by kernel_rfl
theorem Rb (KB:BJ w B):Good (AW prog w B) HG 627:=good0 KB ((KQ.map (·.1)).take 3) KQ (by kernel_rfl) rfl rfl fun S=>C4 fun _ _ _=>by kernel_rfl
theorem O3 (KB:BJ w B):Good (AW prog w B) Ct 632:=good0 KB ((Ip.map (·.1)).take 3) Ip (by kernel_rfl) rfl rfl fun S=>C4 fun _ _ _=>by kernel_rfl
theorem Jw (KB:BJ w B):Good (AW prog w B) DN 639:=good0 KB ((FU.map (·.1)).take 1) FU (by kernel_rfl) rfl rfl fun S=>Cp fun _=>by kernel_rfl
theorem Lc (KB:BJ w B):Good (AW prog w B) Dx 646:=good0 KB ((GU.map (·.1)).take 2) GU (by kernel_rfl) rfl rfl fun S=>BX fun _ _=>by kernel_rfl
theorem JL (KB:BJ w B):Good (AW prog w B) Bt 653:=good0 KB ((Ed.map (·.1)).take 2) Ed (by kernel_rfl) rfl rfl fun S=>BX fun _ _=>by kernel_rfl
theorem Ld (KB:BJ w B):Good (AW prog w B) CX 660:=good0 KB ((GV.map (·.1)).take 2) GV (by kernel_rfl) rfl rfl fun S=>BX fun _ _=>by kernel_rfl
theorem La (KB:BJ w B):Good (AW prog w B) CW 667:=good0 KB ((GR.map (·.1)).take 2) GR (by kernel_rfl) rfl rfl fun S=>BX fun _ _=>by kernel_rfl
theorem T8 (KB:BJ w B):Good (AW prog w B) En 672:=good0 KB ((My.map (·.1)).take 3) My (by kernel_rfl) rfl rfl fun S=>C4 fun _ _ _=>by kernel_rfl
theorem Hy (KB:BJ w B):Good (AW prog w B) CP 677:=good0 KB ((EH.map (·.1)).take 2) EH (by kernel_rfl) rfl rfl fun S=>BX fun _ _=>by kernel_rfl
theorem Lf (KB:BJ w B):Good (AW prog w B) Dz 684:=good0 KB ((GX.map (·.1)).take 2) GX (by kernel_rfl) rfl rfl fun S=>BX fun _ _=>by kernel_rfl
theorem Le (KB:BJ w B):Good (AW prog w B) Dy 691:=good0 KB ((GW.map (·.1)).take 4) GW (by kernel_rfl) rfl rfl fun S=>RS fun _ _ _ _=>by kernel_rfl
theorem Ju (KB:BJ w B):Good (AW prog w B) DL 698:=good0 KB ((FS.map (·.1)).take 4) FS (by kernel_rfl) rfl rfl fun S=>RS fun _ _ _ _=>by kernel_rfl
theorem Jx (KB:BJ w B):Good (AW prog w B) BI 705:=good0 KB ((FV.map (·.1)).take 3) FV (by kernel_rfl) rfl rfl fun S=>C4 fun _ _ _=>by kernel_rfl
theorem O7 (KB:BJ w B):Good (AW prog w B) D4 712:=good0 KB ((It.map (·.1)).take 2) It (by kernel_rfl) rfl rfl fun S=>BX fun _ _=>by kernel_rfl
theorem NR (KB:BJ w B):Good (AW prog w B) Ep 719:=good0 KB ((HY.map (·.1)).take 2) HY (by kernel_rfl) rfl rfl fun S=>BX fun _ _=>by kernel_rfl
theorem PC (KB:BJ w B):Good (AW prog w B) D7 726:=good0 KB ((Iy.map (·.1)).take 3) Iy (by kernel_rfl) rfl rfl fun S=>C4 fun _ _ _=>by kernel_rfl
theorem O9 (KB:BJ w B):Good (AW prog w B) D5 733:=good0 KB ((Iv.map (·.1)).take 3) Iv (by kernel_rfl) rfl rfl fun S=>C4 fun _ _ _=>by kernel_rfl
theorem UA (KB:BJ w B):Good (AW prog w B) JU 740:=good0 KB ((M0.map (·.1)).take 2) M0 (by kernel_rfl) rfl rfl fun S=>BX fun _ _=>by kernel_rfl
theorem PA (KB:BJ w B):Good (AW prog w B) Ft 747:=good0 KB ((Iw.map (·.1)).take 1) Iw (by kernel_rfl) rfl rfl fun S=>Cp fun _=>by kernel_rfl
theorem PB (KB:BJ w B):Good (AW prog w B) Fu 754:=good0 KB ((Ix.map (·.1)).take 3) Ix (by kernel_rfl) rfl rfl fun S=>C4 fun _ _ _=>by kernel_rfl
theorem O8 (KB:BJ w B):Good (AW prog w B) Fs 761:=good0 KB ((Iu.map (·.1)).take 3) Iu (by kernel_rfl) rfl rfl fun S=>C4 fun _ _ _=>by kernel_rfl
theorem NT (KB:BJ w B):Good (AW prog w B) DF 766:=good0 KB ((Hd.map (·.1)).take 5) Hd (by kernel_rfl) rfl rfl fun S=>V7 fun _ _ _ _ _=>by kernel_rfl
theorem NS (KB:BJ w B):Good (AW prog w B) DE 771:=good0 KB ((HZ.map (·.1)).take 7) HZ (by kernel_rfl) rfl rfl fun S=>AAn fun _ _ _ _ _ _ _=>by kernel_rfl
theorem ZW (KB:BJ w B):Good (AW prog w B) FZ 776:=good0 KB ((Hg.map (·.1)).take 1) Hg (by kernel_rfl) rfl rfl fun S=>Cp fun _=>by kernel_rfl
theorem T6 (KB:BJ w B):∀ p∈QP.zip Gm,Good (AW prog w B) p.1 p.2:=by
 have:∀ p∈[(Gr,103),(Gq,117),(Gs,449),(HI,456),(Be,139),(Bg,147),(BD,155),(Er,162),(B8,169),(Fq,176),(At,182),(Bf,191),(BB,199),(Fp,206),(Cq,213),(Cs,220),(CY,227),(Cr,234),(JR,241),(Gp,246),(Em,251),(Et,258),(D9,265),(HH,272),(JV,305),(BR,312),(Cv,369),(DM,376),(Eo,390),(JT,397),(Bu,404),(D0,409),(Cu,416),(IG,423),(Du,428),(Dv,435),(Es,589),(DK,596),(D8,601),(Dw,608),(DO,613),(Fo,620),(HG,627),(Ct,632),(DN,639),(Dx,646),(Bt,653),(CX,660),(CW,667),(En,672),(CP,677),(Dz,684),(Dy,691),(DL,698),(BI,705),(D4,712),(Ep,719),(D7,726),(D5,733),(JU,740),(Ft,747),(Fu,754),(Fs,761),(DF,766),(DE,771),(FZ,776)],Good (AW prog w B) p.1 p.2:=by
  simp only [List.forall_mem_cons,List.not_mem_nil,false_implies,implies_true,and_true]
  exact ⟨UC KB,WH KB,UD KB,Rd KB,Ox KB,O5 KB,Lk KB,NU KB,HF KB,O4 KB,LX KB,Oy KB,NP KB,Oz KB,JM KB,JO KB,Li KB,JN KB,T7 KB,WF KB,NM KB,NW KB,Lj KB,Rc KB,UB KB,FN KB,JP KB,Jv KB,NQ KB,T9 KB,Gl KB,Lg KB,O6 KB,WG KB,LY KB,LZ KB,NV KB,Jt KB,Lh KB,Lb KB,Jy KB,Ow KB,Rb KB,O3 KB,Jw KB,Lc KB,JL KB,Ld KB,La KB,T8 KB,Hy KB,Lf KB,Le KB,Ju KB,Jx KB,O7 KB,NR KB,PC KB,O9 KB,UA KB,PA KB,PB KB,O8 KB,NT KB,NS KB,ZW KB⟩
 exact this
theorem QN (KB:BJ w B) {i:Nat} {a:Addr} (ha:Gm[i]?=some a):∃ f,QP[i]?=some f∧Good (AW prog w B) f a:=by
 have hl:Gm.length=QP.length:=rfl
 have hi:i<QP.length:=by rw [←hl];exact (List.getElem?_eq_some_iff.mp ha).1
 refine ⟨QP[i],List.getElem?_eq_getElem hi,T6 KB (QP[i],a) (List.mem_of_getElem? (i:=i) ?_)⟩
 rw [List.getElem?_zip_eq_some];exact ⟨List.getElem?_eq_getElem hi,ha⟩
theorem Uj {L:List Nat} {C:Addr} (P:Params) (h:L.all (fun a=>match YY[a]? with | some n=>Uk (KK P) C n | none=>false)=true) {a:Nat} {n:Str} (ha:L.contains a=true) (hn:YY[a]?=some n):Uk (KK P) C n=true:=by
 have:=List.all_eq_true.mp h a (by simpa using ha)
 rw [hn] at this
 exact this
theorem VU {p:Program} {loose:List Str} {mg mb:Str→Option Value} (KB:BJ w B) (TR:TopRead p loose mg mb B):Uu (AW prog w B) tx Zn where
 cx:={
  KB:=KB.1
  an0:=rfl
  an1:=rfl
  anN:=by show YY.Nodup;decide +kernel
  cls:=fun k C h=>by
   match k,h with
   | 0,h=>cases h;exact UU (Ri _)
   | 1,h=>cases h;exact UU (Rh _)
  atr:=fun k a C n h hC hn=>by
   match k,hC,h with
   | 0,hC,h=>cases hC;exact Ui (Uj w.params (Nu _) (by simpa [tx] using h) hn)
   | 1,hC,h=>cases hC;exact Ui (Uj w.params (Nt _) (by simpa [tx] using h) hn)
  mth:=fun k m i C n h hC hn=>by
   match k,hC with
   | 0,hC =>
    cases hC
    simp only [tx] at h
    split at h
    ·rename_i e;obtain ⟨_,rfl⟩:=e;cases h;cases hn
     exact ⟨_,rfl,LO (RM _)⟩
    ·split at h
     ·rename_i e;exact absurd e.1 (by decide)
     ·cases h
   | 1,hC =>
    cases hC
    simp only [tx] at h
    split at h
    ·rename_i e;exact absurd e.1 (by decide)
    ·split at h
     ·rename_i e;obtain ⟨_,rfl⟩:=e;cases h;cases hn
      exact ⟨_,rfl,LO (RL _)⟩
     ·cases h
  fnk:=fun i f h=>by obtain ⟨_,_,g⟩:=QN (prog:=prog) KB h;exact g.2 }
 gl:=ZV (fun _=>rfl) (fun _=>rfl) KB.1 rfl rfl (fun _=>rfl) TR (WE _)
 lim:=TR.nolimit
 fn:=fun i f h=>by
  have hl:Gm.length=QP.length:=rfl
  have h':QP[i]?=some f:=h
  have hi:i<Gm.length:=by rw [hl];exact (List.getElem?_eq_some_iff.mp h').1
  obtain ⟨f',e,g⟩:=QN (prog:=prog) KB (List.getElem?_eq_getElem hi)
  rw [h'] at e;cases e
  obtain ⟨o,fd,body,names,Γ,dv,D⟩:=g.1
  exact ⟨_,o,fd,body,names,Γ,dv,List.getElem?_eq_getElem hi,D⟩
 cls:=fun k i h C hC=>by
  match k,hC with
  | 0,hC =>
   cases hC
   have h':(some 0:Option Nat)=some i:=h
   cases h'
   have k:=Bool.and_eq_true_iff.mp (RZ w.params)
   exact ⟨k.1,_,rfl,LO k.2⟩
  | 1,hC =>
   cases hC
   have h':(some 2:Option Nat)=some i:=h
   cases h'
   have k:=Bool.and_eq_true_iff.mp (RY w.params)
   exact ⟨k.1,_,rfl,LO k.2⟩
end
end Mine
end
section
namespace Mine
open PySem PySem.W PyProof.Rows PySem.Spec
open scoped Classical
noncomputable def ZM (scope:Scope) (body:List Stmt):Bool:=decide (scope.kind=.function)&&(scope.names.all fun p=>p.2==.local||p.2==.globalImplicit)&&(Hg.all fun p=>scope.names.lookup p.1==some .local)
 && decide ((Hg.map (·.2)).Nodup)&&Hg.lookup (sO "script")==some 0&&Fa Zn scope.names Hg FZ.body body
theorem X9 {prog:Program} {w:World} {s₁:Shared} {h₁:Heap} {fa l:Addr} {ccd:Value} {vs:List Value} {ns:List Int} {p:Program} {loose:List Str} {mg mb m:Str→Option Value} {scope:Scope} {body:List Stmt} {cn:Str} {A:Around} {n tk:Nat} {Q:Flow→Shared→Prop} {E:Value→Shared→Prop}
  (KX:BJ w s₁.heap) (TR:TopRead p loose mg mb s₁.heap) (F:Fr s₁.heap s₁.heap.objs.size h₁ m) (hm:m (sO "script")=some (.ref l)) (hL:s₁.heap.IsList l vs.toArray) (hI:IntsAre vs ns) (hb:ZM scope body=true) (hA:Ok A n)
  (hX:Xs tx.toTx (Call tx n) FZ.body (some (.fl ns)::List.replicate 30 none) [] fun fl _ _=>fl=.ret (.bool true))
  (hQ:∀ s' m',s'.gens=s₁.gens→s'.os=s₁.os→Fr s₁.heap s₁.heap.objs.size s'.heap m'→Q (.ret (.bool true)) s') :
  wpAny (model prog w) A (execs body (envOf cn scope s₁.heap.objs.size fa ccd)) Q E { s₁ with heap:=h₁,toks:=tk }:=by
 simp only [ZM,Bool.and_eq_true,decide_eq_true_eq,List.all_eq_true,beq_iff_eq,Bool.or_eq_true] at hb
 obtain ⟨⟨⟨⟨⟨h1,h2⟩,h3⟩,h4⟩,h5⟩,h6⟩:=hb
 have O:=VU (prog:=prog) (w:=w) (B:=s₁.heap) KX TR
 have HC:E2 (AW prog w s₁.heap) (Call tx n) n:=fun A g xs v vs ρ st s Q hA I rg rs h=>wpAny_call (codeAny_mono (EB O n A g xs v vs ρ st s Q hA I rg rs h) fun r s' z=>by
  obtain ⟨v,rfl,z⟩:=YE z
  exact z)
 have hlt:s₁.heap.objs.size<h₁.objs.size:=F.ns.lt
 have hsys:sysModules<s₁.heap.objs.size:=by
  obtain ⟨_,_,_,ho,_⟩:=TR.g
  have:=Heap.lt_size ho
  exact Nat.lt_trans (show (sysModules:Nat)<mainGlobals by decide) this
 have I:Inv (AW prog w s₁.heap) [] [] h₁:=⟨rfl,List.nodup_nil,fun b o e=>F.keep b o e,fun b hb=>(nomatch hb),fun b hb=>(nomatch hb),Nat.le_of_lt hlt,hsys,fun i a o e=>by simp at e⟩
 have fpe:A4 (envOf cn scope s₁.heap.objs.size fa ccd)=[s₁.heap.objs.size]∨∀ b∈A4 (envOf cn scope s₁.heap.objs.size fa ccd),b=s₁.heap.objs.size:=.inr fun b hb=>by
  rcases Lm hb with rfl | ⟨x,_,e⟩
  ·rfl
  ·cases e
 have hfp:∀ b∈A4 (envOf cn scope s₁.heap.objs.size fa ccd),b=s₁.heap.objs.size:=by
  rcases fpe with h | h
  ·intro b hb;rw [h] at hb;exact List.mem_singleton.mp hb
  ·exact h
 have FF:FR (AW prog w s₁.heap) scope.names Hg (envOf cn scope s₁.heap.objs.size fa ccd) h₁ [] (some (.fl ns)::List.replicate 30 none):=by
  refine ⟨h1,rfl,rfl,fun y e=>e,fun y e=>e,fun y e=>?_,fun y i e=>.inl (h3 _ (lookup_mem e)),fun y z i e1 e2=>BF h4 e1 e2,⟨m,F.ns,fun y i v e _ hv=>?_⟩,fun y a hk ha=>(nomatch ha),fun y z a _ _ e=>(nomatch e),fun b hb=>⟨fun q=>(nomatch q),by rw [hfp b hb];exact Nat.le_refl _⟩⟩
  ·rcases e with e | e<;>(have:=h2 _ (lookup_mem e);simp at this)
  ·cases i with
   | succ i =>
    rw [List.getElem?_cons_succ] at hv
    have:=List.mem_of_getElem? hv
    rw [List.mem_replicate] at this
    exact absurd this.2 (by simp)
   | zero =>
    simp at hv
    subst hv
    have:=BF h4 e h5
    subst this
    exact ⟨_,hm,⟨l,vs,rfl,hL,hI⟩⟩
 refine wpAny_mono (Ci O.cx O.gl HC (fun _ _ _ _ h=>Ki h) FZ.body body scope.names Hg A _ _ [] [] { s₁ with heap:=h₁,toks:=tk } _ h6 hA I FF hX) ?_ fun _ _ f=>f.elim
 rintro f s' ⟨ρ',st',fl,σ',hfl,S,I',F',R'⟩
 subst hfl
 cases R' with
 | ret r =>
  cases r
  obtain ⟨m',hn,_⟩:=F'.loc
  refine hQ s' m' S.gens S.os ⟨hn,fun b o e=>S.keep b o (F.keep b o e) (fun q=>nomatch q) fun q=>?_,Nat.le_refl _⟩
  exact Nat.lt_irrefl _ (Nat.lt_of_lt_of_le (Heap.lt_size e) (Nat.le_of_eq (hfp b q).symm))
end Mine
end
section
namespace Mine
open PySem PySem.W PyProof.Rows
open scoped Classical
local macro_rules | `(tactic| k_qdec)=>`(tactic| decide +kernel)
set_option maxHeartbeats 8000000 in
theorem done (law:∀ ns:List Int,ns.length≤63→Xs tx.toTx (Call tx 60) FZ.body (some (.fl ns)::List.replicate 30 none) [] fun fl _ _=>fl=.ret (.bool true)):PySem.Challenge.rw_rh0130_01.Holds:=holds_law ws0 fun said=>by
 refine PySem.W.holds_open (q:=Q0) (loose:=Ww) (Xt:=Xt0) (XP:=XL Q0 []) Wy Y0 Y0k (fun s e=>xl_of s (Bool.and_eq_true_iff.mp e).1) XL.keeps rfl rfl rfl (fun s e=>recFacts_of (Bool.and_eq_true_iff.mp e).2) rfl said ok0 XB Ym ?_
 intro w s₀ s₁ mg mb G Y fa o pm cd doc dV kV ho hd hcd hD hmg hg args vals as hpre hlay hrd hwl hlo
 have KX:=Y
 k_behind G ho hd hcd hD hmg hpre hlay hrd hwl hlo cd
 refine X9 (n:=60) (by assumption) (topRead_of (by assumption)) (by assumption) ?hm (by assumption) (by assumption) ?hb ?hA (law _ ?hl) ?hQ
 case hm=>first | rfl | (kernel_rfl)
 case hb=>first | kernel_rfl
 case hA=>exact ⟨rfl,(by show callerA.depth+1+3*60+3<recursionLimit;decide +kernel),(by show callerA.units+3+10*60+200<cLine;decide +kernel)⟩
 case hl=>first | omega
 case hQ =>
  intro s' m' hg hos F'
  refine goodW_bool F' (hg.trans (by assumption)) ?h1 ?h2 hos
  case h1=>first | (intro cls;rfl) | (intro cls;kernel_rfl)
  case h2=>first | rfl | kernel_rfl
end Mine
end
set_option maxRecDepth 100000 in
set_option maxHeartbeats 8000000 in
theorem PySem.Challenge.cw_rh0130_01_holds : PySem.Challenge.rw_rh0130_01.Holds := by
 exact Mine.done (Mine.V.law_of_V Mine.V.law_V)
