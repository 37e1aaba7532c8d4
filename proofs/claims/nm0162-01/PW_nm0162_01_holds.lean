import PyProof.Rows.All
import Wide.All
import OpenK.AllK
import Wide.FinOn
import PySem.Challenge.RW_nm0162_01
set_option Elab.async false
set_option autoImplicit false
set_option compiler.extract_closed false
set_option tactic.hygienic false
set_option linter.all false
set_option genSizeOf false
set_option genInjectivity false
set_option maxRecDepth 100000
set_option maxHeartbeats 8000000
open PySem PySem.W PyProof.Rows PySem.Calls PySem.Spec
namespace Mine
section
theorem q01 {A0 A1:Prop}{P:Prop}(h:A0∧A1)(k:A0→A1→P):P:=k h.1 h.2
theorem q02 {A0 A1 A2:Prop}{P:Prop}(h:A0∧A1∧A2)(k:A0→A1→A2→P):P:=k h.1 h.2.1 h.2.2
theorem q03 {A0 A1 A2 A3:Prop}{P:Prop}(h:A0∧A1∧A2∧A3)(k:A0→A1→A2→A3→P):P:=k h.1 h.2.1 h.2.2.1 h.2.2.2
theorem q04 {A0 A1 A2 A3 A4:Prop}{P:Prop}(h:A0∧A1∧A2∧A3∧A4)(k:A0→A1→A2→A3→A4→P):P:=k h.1 h.2.1 h.2.2.1 h.2.2.2.1 h.2.2.2.2
theorem q10.{u0} {t0:Sort u0} {A0:t0→Prop}{P:Prop}(h:∃ x0,A0 x0)(k:∀ x0,A0 x0→P):P:=h.elim fun x0 h=>k x0 h
theorem q11.{u0} {t0:Sort u0} {A0 A1:t0→Prop}{P:Prop}(h:∃ x0,A0 x0∧A1 x0)(k:∀ x0,A0 x0→A1 x0→P):P:=h.elim fun x0 h=>k x0 h.1 h.2
theorem q12.{u0} {t0:Sort u0} {A0 A1 A2:t0→Prop}{P:Prop}(h:∃ x0,A0 x0∧A1 x0∧A2 x0)(k:∀ x0,A0 x0→A1 x0→A2 x0→P):P:=h.elim fun x0 h=>k x0 h.1 h.2.1 h.2.2
theorem q13.{u0} {t0:Sort u0} {A0 A1 A2 A3:t0→Prop}{P:Prop}(h:∃ x0,A0 x0∧A1 x0∧A2 x0∧A3 x0)(k:∀ x0,A0 x0→A1 x0→A2 x0→A3 x0→P):P:=h.elim fun x0 h=>k x0 h.1 h.2.1 h.2.2.1 h.2.2.2
theorem q14.{u0} {t0:Sort u0} {A0 A1 A2 A3 A4:t0→Prop}{P:Prop}(h:∃ x0,A0 x0∧A1 x0∧A2 x0∧A3 x0∧A4 x0)(k:∀ x0,A0 x0→A1 x0→A2 x0→A3 x0→A4 x0→P):P:=h.elim fun x0 h=>k x0 h.1 h.2.1 h.2.2.1 h.2.2.2.1 h.2.2.2.2
theorem q15.{u0} {t0:Sort u0} {A0 A1 A2 A3 A4 A5:t0→Prop}{P:Prop}(h:∃ x0,A0 x0∧A1 x0∧A2 x0∧A3 x0∧A4 x0∧A5 x0)(k:∀ x0,A0 x0→A1 x0→A2 x0→A3 x0→A4 x0→A5 x0→P):P:=h.elim fun x0 h=>k x0 h.1 h.2.1 h.2.2.1 h.2.2.2.1 h.2.2.2.2.1 h.2.2.2.2.2
theorem q20.{u0,u1} {t0:Sort u0} {t1:Sort u1} {A0:t0→t1→Prop}{P:Prop}(h:∃ x0 x1,A0 x0 x1)(k:∀ x0 x1,A0 x0 x1→P):P:=h.elim fun x0 h=>h.elim fun x1 h=>k x0 x1 h
theorem q21.{u0,u1} {t0:Sort u0} {t1:Sort u1} {A0 A1:t0→t1→Prop}{P:Prop}(h:∃ x0 x1,A0 x0 x1∧A1 x0 x1)(k:∀ x0 x1,A0 x0 x1→A1 x0 x1→P):P:=h.elim fun x0 h=>h.elim fun x1 h=>k x0 x1 h.1 h.2
theorem q22.{u0,u1} {t0:Sort u0} {t1:Sort u1} {A0 A1 A2:t0→t1→Prop}{P:Prop}(h:∃ x0 x1,A0 x0 x1∧A1 x0 x1∧A2 x0 x1)(k:∀ x0 x1,A0 x0 x1→A1 x0 x1→A2 x0 x1→P):P:=h.elim fun x0 h=>h.elim fun x1 h=>k x0 x1 h.1 h.2.1 h.2.2
theorem q23.{u0,u1} {t0:Sort u0} {t1:Sort u1} {A0 A1 A2 A3:t0→t1→Prop}{P:Prop}(h:∃ x0 x1,A0 x0 x1∧A1 x0 x1∧A2 x0 x1∧A3 x0 x1)(k:∀ x0 x1,A0 x0 x1→A1 x0 x1→A2 x0 x1→A3 x0 x1→P):P:=h.elim fun x0 h=>h.elim fun x1 h=>k x0 x1 h.1 h.2.1 h.2.2.1 h.2.2.2
theorem q24.{u0,u1} {t0:Sort u0} {t1:Sort u1} {A0 A1 A2 A3 A4:t0→t1→Prop}{P:Prop}(h:∃ x0 x1,A0 x0 x1∧A1 x0 x1∧A2 x0 x1∧A3 x0 x1∧A4 x0 x1)(k:∀ x0 x1,A0 x0 x1→A1 x0 x1→A2 x0 x1→A3 x0 x1→A4 x0 x1→P):P:=h.elim fun x0 h=>h.elim fun x1 h=>k x0 x1 h.1 h.2.1 h.2.2.1 h.2.2.2.1 h.2.2.2.2
theorem q25.{u0,u1} {t0:Sort u0} {t1:Sort u1} {A0 A1 A2 A3 A4 A5:t0→t1→Prop}{P:Prop}(h:∃ x0 x1,A0 x0 x1∧A1 x0 x1∧A2 x0 x1∧A3 x0 x1∧A4 x0 x1∧A5 x0 x1)(k:∀ x0 x1,A0 x0 x1→A1 x0 x1→A2 x0 x1→A3 x0 x1→A4 x0 x1→A5 x0 x1→P):P:=h.elim fun x0 h=>h.elim fun x1 h=>k x0 x1 h.1 h.2.1 h.2.2.1 h.2.2.2.1 h.2.2.2.2.1 h.2.2.2.2.2
theorem q30.{u0,u1,u2} {t0:Sort u0} {t1:Sort u1} {t2:Sort u2} {A0:t0→t1→t2→Prop}{P:Prop}(h:∃ x0 x1 x2,A0 x0 x1 x2)(k:∀ x0 x1 x2,A0 x0 x1 x2→P):P:=h.elim fun x0 h=>h.elim fun x1 h=>h.elim fun x2 h=>k x0 x1 x2 h
theorem q31.{u0,u1,u2} {t0:Sort u0} {t1:Sort u1} {t2:Sort u2} {A0 A1:t0→t1→t2→Prop}{P:Prop}(h:∃ x0 x1 x2,A0 x0 x1 x2∧A1 x0 x1 x2)(k:∀ x0 x1 x2,A0 x0 x1 x2→A1 x0 x1 x2→P):P:=h.elim fun x0 h=>h.elim fun x1 h=>h.elim fun x2 h=>k x0 x1 x2 h.1 h.2
theorem q32.{u0,u1,u2} {t0:Sort u0} {t1:Sort u1} {t2:Sort u2} {A0 A1 A2:t0→t1→t2→Prop}{P:Prop}(h:∃ x0 x1 x2,A0 x0 x1 x2∧A1 x0 x1 x2∧A2 x0 x1 x2)(k:∀ x0 x1 x2,A0 x0 x1 x2→A1 x0 x1 x2→A2 x0 x1 x2→P):P:=h.elim fun x0 h=>h.elim fun x1 h=>h.elim fun x2 h=>k x0 x1 x2 h.1 h.2.1 h.2.2
theorem q33.{u0,u1,u2} {t0:Sort u0} {t1:Sort u1} {t2:Sort u2} {A0 A1 A2 A3:t0→t1→t2→Prop}{P:Prop}(h:∃ x0 x1 x2,A0 x0 x1 x2∧A1 x0 x1 x2∧A2 x0 x1 x2∧A3 x0 x1 x2)(k:∀ x0 x1 x2,A0 x0 x1 x2→A1 x0 x1 x2→A2 x0 x1 x2→A3 x0 x1 x2→P):P:=h.elim fun x0 h=>h.elim fun x1 h=>h.elim fun x2 h=>k x0 x1 x2 h.1 h.2.1 h.2.2.1 h.2.2.2
theorem q34.{u0,u1,u2} {t0:Sort u0} {t1:Sort u1} {t2:Sort u2} {A0 A1 A2 A3 A4:t0→t1→t2→Prop}{P:Prop}(h:∃ x0 x1 x2,A0 x0 x1 x2∧A1 x0 x1 x2∧A2 x0 x1 x2∧A3 x0 x1 x2∧A4 x0 x1 x2)(k:∀ x0 x1 x2,A0 x0 x1 x2→A1 x0 x1 x2→A2 x0 x1 x2→A3 x0 x1 x2→A4 x0 x1 x2→P):P:=h.elim fun x0 h=>h.elim fun x1 h=>h.elim fun x2 h=>k x0 x1 x2 h.1 h.2.1 h.2.2.1 h.2.2.2.1 h.2.2.2.2
theorem q41.{u0,u1,u2,u3} {t0:Sort u0} {t1:Sort u1} {t2:Sort u2} {t3:Sort u3} {A0 A1:t0→t1→t2→t3→Prop}{P:Prop}(h:∃ x0 x1 x2 x3,A0 x0 x1 x2 x3∧A1 x0 x1 x2 x3)(k:∀ x0 x1 x2 x3,A0 x0 x1 x2 x3→A1 x0 x1 x2 x3→P):P:=h.elim fun x0 h=>h.elim fun x1 h=>h.elim fun x2 h=>h.elim fun x3 h=>k x0 x1 x2 x3 h.1 h.2
theorem q42.{u0,u1,u2,u3} {t0:Sort u0} {t1:Sort u1} {t2:Sort u2} {t3:Sort u3} {A0 A1 A2:t0→t1→t2→t3→Prop}{P:Prop}(h:∃ x0 x1 x2 x3,A0 x0 x1 x2 x3∧A1 x0 x1 x2 x3∧A2 x0 x1 x2 x3)(k:∀ x0 x1 x2 x3,A0 x0 x1 x2 x3→A1 x0 x1 x2 x3→A2 x0 x1 x2 x3→P):P:=h.elim fun x0 h=>h.elim fun x1 h=>h.elim fun x2 h=>h.elim fun x3 h=>k x0 x1 x2 x3 h.1 h.2.1 h.2.2
theorem q43.{u0,u1,u2,u3} {t0:Sort u0} {t1:Sort u1} {t2:Sort u2} {t3:Sort u3} {A0 A1 A2 A3:t0→t1→t2→t3→Prop}{P:Prop}(h:∃ x0 x1 x2 x3,A0 x0 x1 x2 x3∧A1 x0 x1 x2 x3∧A2 x0 x1 x2 x3∧A3 x0 x1 x2 x3)(k:∀ x0 x1 x2 x3,A0 x0 x1 x2 x3→A1 x0 x1 x2 x3→A2 x0 x1 x2 x3→A3 x0 x1 x2 x3→P):P:=h.elim fun x0 h=>h.elim fun x1 h=>h.elim fun x2 h=>h.elim fun x3 h=>k x0 x1 x2 x3 h.1 h.2.1 h.2.2.1 h.2.2.2
theorem q45.{u0,u1,u2,u3} {t0:Sort u0} {t1:Sort u1} {t2:Sort u2} {t3:Sort u3} {A0 A1 A2 A3 A4 A5:t0→t1→t2→t3→Prop}{P:Prop}(h:∃ x0 x1 x2 x3,A0 x0 x1 x2 x3∧A1 x0 x1 x2 x3∧A2 x0 x1 x2 x3∧A3 x0 x1 x2 x3∧A4 x0 x1 x2 x3∧A5 x0 x1 x2 x3)(k:∀ x0 x1 x2 x3,A0 x0 x1 x2 x3→A1 x0 x1 x2 x3→A2 x0 x1 x2 x3→A3 x0 x1 x2 x3→A4 x0 x1 x2 x3→A5 x0 x1 x2 x3→P):P:=h.elim fun x0 h=>h.elim fun x1 h=>h.elim fun x2 h=>h.elim fun x3 h=>k x0 x1 x2 x3 h.1 h.2.1 h.2.2.1 h.2.2.2.1 h.2.2.2.2.1 h.2.2.2.2.2
theorem q54.{u0,u1,u2,u3,u4} {t0:Sort u0} {t1:Sort u1} {t2:Sort u2} {t3:Sort u3} {t4:Sort u4} {A0 A1 A2 A3 A4:t0→t1→t2→t3→t4→Prop}{P:Prop}(h:∃ x0 x1 x2 x3 x4,A0 x0 x1 x2 x3 x4∧A1 x0 x1 x2 x3 x4∧A2 x0 x1 x2 x3 x4∧A3 x0 x1 x2 x3 x4∧A4 x0 x1 x2 x3 x4)(k:∀ x0 x1 x2 x3 x4,A0 x0 x1 x2 x3 x4→A1 x0 x1 x2 x3 x4→A2 x0 x1 x2 x3 x4→A3 x0 x1 x2 x3 x4→A4 x0 x1 x2 x3 x4→P):P:=h.elim fun x0 h=>h.elim fun x1 h=>h.elim fun x2 h=>h.elim fun x3 h=>h.elim fun x4 h=>k x0 x1 x2 x3 x4 h.1 h.2.1 h.2.2.1 h.2.2.2.1 h.2.2.2.2
theorem q55.{u0,u1,u2,u3,u4} {t0:Sort u0} {t1:Sort u1} {t2:Sort u2} {t3:Sort u3} {t4:Sort u4} {A0 A1 A2 A3 A4 A5:t0→t1→t2→t3→t4→Prop}{P:Prop}(h:∃ x0 x1 x2 x3 x4,A0 x0 x1 x2 x3 x4∧A1 x0 x1 x2 x3 x4∧A2 x0 x1 x2 x3 x4∧A3 x0 x1 x2 x3 x4∧A4 x0 x1 x2 x3 x4∧A5 x0 x1 x2 x3 x4)(k:∀ x0 x1 x2 x3 x4,A0 x0 x1 x2 x3 x4→A1 x0 x1 x2 x3 x4→A2 x0 x1 x2 x3 x4→A3 x0 x1 x2 x3 x4→A4 x0 x1 x2 x3 x4→A5 x0 x1 x2 x3 x4→P):P:=h.elim fun x0 h=>h.elim fun x1 h=>h.elim fun x2 h=>h.elim fun x3 h=>h.elim fun x4 h=>k x0 x1 x2 x3 x4 h.1 h.2.1 h.2.2.1 h.2.2.2.1 h.2.2.2.2.1 h.2.2.2.2.2
theorem q56.{u0,u1,u2,u3,u4} {t0:Sort u0} {t1:Sort u1} {t2:Sort u2} {t3:Sort u3} {t4:Sort u4} {A0 A1 A2 A3 A4 A5 A6:t0→t1→t2→t3→t4→Prop}{P:Prop}(h:∃ x0 x1 x2 x3 x4,A0 x0 x1 x2 x3 x4∧A1 x0 x1 x2 x3 x4∧A2 x0 x1 x2 x3 x4∧A3 x0 x1 x2 x3 x4∧A4 x0 x1 x2 x3 x4∧A5 x0 x1 x2 x3 x4∧A6 x0 x1 x2 x3 x4)(k:∀ x0 x1 x2 x3 x4,A0 x0 x1 x2 x3 x4→A1 x0 x1 x2 x3 x4→A2 x0 x1 x2 x3 x4→A3 x0 x1 x2 x3 x4→A4 x0 x1 x2 x3 x4→A5 x0 x1 x2 x3 x4→A6 x0 x1 x2 x3 x4→P):P:=h.elim fun x0 h=>h.elim fun x1 h=>h.elim fun x2 h=>h.elim fun x3 h=>h.elim fun x4 h=>k x0 x1 x2 x3 x4 h.1 h.2.1 h.2.2.1 h.2.2.2.1 h.2.2.2.2.1 h.2.2.2.2.2.1 h.2.2.2.2.2.2
theorem q60.{u0,u1,u2,u3,u4,u5} {t0:Sort u0} {t1:Sort u1} {t2:Sort u2} {t3:Sort u3} {t4:Sort u4} {t5:Sort u5} {A0:t0→t1→t2→t3→t4→t5→Prop}{P:Prop}(h:∃ x0 x1 x2 x3 x4 x5,A0 x0 x1 x2 x3 x4 x5)(k:∀ x0 x1 x2 x3 x4 x5,A0 x0 x1 x2 x3 x4 x5→P):P:=h.elim fun x0 h=>h.elim fun x1 h=>h.elim fun x2 h=>h.elim fun x3 h=>h.elim fun x4 h=>h.elim fun x5 h=>k x0 x1 x2 x3 x4 x5 h
theorem q63.{u0,u1,u2,u3,u4,u5} {t0:Sort u0} {t1:Sort u1} {t2:Sort u2} {t3:Sort u3} {t4:Sort u4} {t5:Sort u5} {A0 A1 A2 A3:t0→t1→t2→t3→t4→t5→Prop}{P:Prop}(h:∃ x0 x1 x2 x3 x4 x5,A0 x0 x1 x2 x3 x4 x5∧A1 x0 x1 x2 x3 x4 x5∧A2 x0 x1 x2 x3 x4 x5∧A3 x0 x1 x2 x3 x4 x5)(k:∀ x0 x1 x2 x3 x4 x5,A0 x0 x1 x2 x3 x4 x5→A1 x0 x1 x2 x3 x4 x5→A2 x0 x1 x2 x3 x4 x5→A3 x0 x1 x2 x3 x4 x5→P):P:=h.elim fun x0 h=>h.elim fun x1 h=>h.elim fun x2 h=>h.elim fun x3 h=>h.elim fun x4 h=>h.elim fun x5 h=>k x0 x1 x2 x3 x4 x5 h.1 h.2.1 h.2.2.1 h.2.2.2
theorem q64.{u0,u1,u2,u3,u4,u5} {t0:Sort u0} {t1:Sort u1} {t2:Sort u2} {t3:Sort u3} {t4:Sort u4} {t5:Sort u5} {A0 A1 A2 A3 A4:t0→t1→t2→t3→t4→t5→Prop}{P:Prop}(h:∃ x0 x1 x2 x3 x4 x5,A0 x0 x1 x2 x3 x4 x5∧A1 x0 x1 x2 x3 x4 x5∧A2 x0 x1 x2 x3 x4 x5∧A3 x0 x1 x2 x3 x4 x5∧A4 x0 x1 x2 x3 x4 x5)(k:∀ x0 x1 x2 x3 x4 x5,A0 x0 x1 x2 x3 x4 x5→A1 x0 x1 x2 x3 x4 x5→A2 x0 x1 x2 x3 x4 x5→A3 x0 x1 x2 x3 x4 x5→A4 x0 x1 x2 x3 x4 x5→P):P:=h.elim fun x0 h=>h.elim fun x1 h=>h.elim fun x2 h=>h.elim fun x3 h=>h.elim fun x4 h=>h.elim fun x5 h=>k x0 x1 x2 x3 x4 x5 h.1 h.2.1 h.2.2.1 h.2.2.2.1 h.2.2.2.2
theorem q65.{u0,u1,u2,u3,u4,u5} {t0:Sort u0} {t1:Sort u1} {t2:Sort u2} {t3:Sort u3} {t4:Sort u4} {t5:Sort u5} {A0 A1 A2 A3 A4 A5:t0→t1→t2→t3→t4→t5→Prop}{P:Prop}(h:∃ x0 x1 x2 x3 x4 x5,A0 x0 x1 x2 x3 x4 x5∧A1 x0 x1 x2 x3 x4 x5∧A2 x0 x1 x2 x3 x4 x5∧A3 x0 x1 x2 x3 x4 x5∧A4 x0 x1 x2 x3 x4 x5∧A5 x0 x1 x2 x3 x4 x5)(k:∀ x0 x1 x2 x3 x4 x5,A0 x0 x1 x2 x3 x4 x5→A1 x0 x1 x2 x3 x4 x5→A2 x0 x1 x2 x3 x4 x5→A3 x0 x1 x2 x3 x4 x5→A4 x0 x1 x2 x3 x4 x5→A5 x0 x1 x2 x3 x4 x5→P):P:=h.elim fun x0 h=>h.elim fun x1 h=>h.elim fun x2 h=>h.elim fun x3 h=>h.elim fun x4 h=>h.elim fun x5 h=>k x0 x1 x2 x3 x4 x5 h.1 h.2.1 h.2.2.1 h.2.2.2.1 h.2.2.2.2.1 h.2.2.2.2.2
open Lean in
 def zsG (a:List Syntax):List String→List Syntax→Syntax
   | t::l,st=>zsG a l (match t.splitOn "/" with
     | [k,n]=>.node .none (if k.startsWith "." then "Lean.Parser.Tactic" ++ k else k).toName (st.take n.toNat!).reverse.toArray::st.drop n.toNat!
     | _=>(if t.isNat then a[t.toNat!]! else .atom .none t)::st)
   | _,st=>st.head!
open Lean in
 def zsP (s:String) (a:List Syntax):Syntax:=zsG a (s.splitOn " ") []
 def zsV {α β:Type} (f:α→List β):List α→List β
   | []=>[]
   | a::l=>f a++zsV f l
open Lean in
 def zsS (s:String) (a:List Syntax):Syntax:=.node .none `null (a.intersperse (.atom .none s)).toArray
open Lean in
 def zsL (a:List Syntax):Syntax:=.node .none `null a.toArray
open Lean in
 def zsQ (a:List Syntax):Syntax:=zsP "( 0 .tacticSeq1Indented/1 .tacticSeq/1 ) .paren/3" [zsS ";" a]
open Lean in
 def zsF (a:List Syntax):Syntax:=zsP "first 0 .first/2" [zsL (zsV (fun t=>[zsP "| 0 null/1 .tacticSeq1Indented/1 .tacticSeq/1 group/2" [t]]) a)]
open Lean in
 def zsK (q:Syntax):String:=let s:=q.getKind.getString!;if s == "one" && q[0].getId == `rfl then "r" else s
open Lean in
 def zsB (p z:Syntax):Syntax:=zsP "obtain 0 null/1 null/0 := 1 null/1 null/2 .obtain/4" [p,z]
open Lean in
 def zsU (a:List Syntax):Syntax:=zsP "⟨ 0 ⟩ .rcasesPat.tuple/3 null/1 .rcasesPatMed/1" [zsS "," a]
 def zsD (x:Nat):List Nat:=(List.range (min x 6+1)).reverse
open Lean in
 def zsI (s:String):Syntax:=mkIdent (.mkSimple s)
open Lean in
 def zsO (ps:List Syntax) (e:Syntax):Syntax:=
   let n:=ps.length;let ei:=if e.isIdent then e.getId else `zn
   let bs:=zsV (fun (i,p) =>
     let q:=p[0][0][0];let k:=zsK q;let z:=zsI s!"z{ei}{i}"
     [(if k == "one" then (if q[0].getId == ei then zsI "zc" else q[0]) else if k == "ignore" then zsP "_ Lean.Parser.Term.hole/1" [] else z,if k == "one" || k == "ignore" then none else some (fun k=>zsB (if i < k then zsP "( 0 ) .rcasesPat.paren/3 null/1 .rcasesPatMed/1" [p] else p[0]) z))]) ((List.range n).zip ps)
   zsF (zsV (fun k=>zsV (fun m =>
     let more:=k+m+1 < n;let j:=if more then k+m else n
     let zr:=zsI s!"z{ei}r";let bj:=bs.take j
     [zsQ (zsP "refine 0 1 fun 2 null/0 => ? _ Lean.Parser.Term.syntheticHole/2 Lean.Parser.Term.basicFun/4 Lean.Parser.Term.fun/2 null/2 Lean.Parser.Term.app/2 .refine/2" [zsI s!"q{k}{m}",e,zsL (zsV (fun b=>[b.1]) bj++if more then [zr] else [])]::(if e.isIdent then [zsP "try clear 0 null/1 .clear/2 null/1 .tacticSeq1Indented/1 .tacticSeq/1 .tacticTry_/2" [e],zsP "try ( revert 0 null/1 .revert/2 ; intro 1 null/1 .intro/2 null/3 .tacticSeq1Indented/1 .tacticSeq/1 ) .paren/3 null/1 .tacticSeq1Indented/1 .tacticSeq/1 .tacticTry_/2" [zsI "zc",e]] else [])++zsV (fun b=>(b.2.map (· k)).toList) bj++if more then [zsB (zsU (ps.drop j)) zr] else [])]) (zsD (n - 1 - k))) (zsD (n - 1))++[zsP "rcases null/0 0 .elimTarget/2 null/1 with ( 1 null/0 .rcasesPatLo/2 ) .rcasesPat.paren/3 null/1 .rcasesPatMed/1 null/0 .rcasesPatLo/2 null/2 .rcases/3" [e,zsU ps]])
open Lean in
 def zsM (p e:Syntax) (b:Bool):MacroM Syntax:=
   let ps:=p[0][0][1].getSepArgs.toList
   if b && p[0].getNumArgs == 1 && zsK p[0][0] == "tuple" && ps.length > 1 && (zsV (fun p=>if p[1].getNumArgs != 0 || p[0][0].getNumArgs != 1 then [p] else []) ps).isEmpty then return zsO ps e else Macro.throwUnsupported
open Lean in
local macro_rules (kind:=Lean.Parser.Tactic.obtain)
  | s=>zsM s[1][0] s[3][1][0] (s[2].getNumArgs == 0 && s[3][1].getNumArgs == 1)
open Lean in
local macro_rules (kind:=Lean.Parser.Tactic.rcases)
  | s=>zsM s[2][1][0] s[1][0][1] (s[1].getNumArgs == 1 && s[1][0][0].getNumArgs == 0 && s[2][1][1].getNumArgs == 0)
open Lean in
local macro_rules (kind:=Lean.Parser.Tactic.rintro)
  | s =>
    let l:=zsV (fun p=>if zsK p == "one" then [(p[0],zsK p[0])] else []) s[1].getArgs.toList;let i (x:Syntax):=zsP "intro 0 null/1 .intro/2" [x]
    if s[2].getNumArgs == 0 && l.length == s[1].getNumArgs && (zsV (fun (_,k)=>if k == "one" || k == "ignore" then [k] else []) l).length < l.length && (zsV (fun (_,k)=>if k == "one" || k == "ignore" || k == "r" || k == "tuple" then [k] else []) l).length == l.length then return zsQ (zsV (fun (q,k) =>
      if k == "one" then [i q[0]] else if k == "ignore" then [i (zsP "_ Lean.Parser.Term.hole/1" [])] else [i (zsI "zi"),zsB (zsP "0 null/1 .rcasesPatMed/1" [q]) (zsI "zi")]) l) else Macro.throwUnsupported
open Lean in
local macro_rules (kind:=termS!_)
  | s=>return zsP "0 1 null/1 Lean.Parser.Term.app/2" [mkIdent `Str.ofString,Syntax.mkStrLit (s[1][0].isInterpolatedStrLit?.getD "")]
open Lean in
local macro_rules (kind:=Lean.Parser.Tactic.omega)
  | s=>if s[1][0].getNumArgs != 0 then Macro.throwUnsupported else return zsF [zsP "lia null/0 .optConfig/1 .lia/2" [],zsP "omega + 0 .posConfigItem/2 .configItem/1 null/1 .optConfig/1 .omega/2" [zsI "splitDisjunctions"]]
set_option bootstrap.genMatcherCode false
noncomputable abbrev Led:=List (Addr×Obj)
inductive D where
  | none
  | bool (b:Bool)
  | int (i:Int)
  | str (s:Str)
  | bytes (b:Array UInt8)
  | tup (l:List D)
  | lst (l:List D)
  | obj (C:Addr) (fs:List (Str×D))
  | dict (tb:List (Int×D))
  | val (v:Value)
mutual
inductive Dn (P:Addr→Obj→Prop):Value→D→Prop
  | none:Dn P Value.none D.none
  | bool (b:Bool):Dn P (Value.bool b) (D.bool b)
  | int (i:Int) (t:Tok):Dn P (Value.int i t) (D.int i)
  | str (x:Str) (t:Tok):Dn P (Value.str x t) (D.str x)
  | bytes (b:Array UInt8) (t:Tok):Dn P (Value.bytes b t) (D.bytes b)
  | tup {a:Addr} {vs:List Value} {n:Nat} {ds:List D}:P a {cls:=.type "tuple",data:=.seq vs.toArray n}→Dns P vs ds→Dn P (Value.ref a) (D.tup ds)
  | lst {a:Addr} {vs:List Value} {n:Nat} {ds:List D}:P a (listOf vs.toArray n)→Dns P vs ds→Dn P (Value.ref a) (D.lst ds)
  | obj {x dx C:Addr} {es:List DictEntry} {n:Nat} {fs:List (Str×D)}:P x (instObj C dx)→P dx (dictOf es n)→DnF P es fs→Dn P (Value.ref x) (D.obj C fs)
  | dict {a:Addr} {es:List DictEntry} {n:Nat} {tb:List (Int×D)}:(a == sysModules)=false→P a (dictOf es n)→DnI P es tb→Dn P (Value.ref a) (D.dict tb)
  | val (v:Value):Dn P v (D.val v)
inductive Dns (P:Addr→Obj→Prop):List Value→List D→Prop
  | nil:Dns P [] []
  | cons {v:Value} {vs:List Value} {d:D} {ds:List D}:Dn P v d→Dns P vs ds→Dns P (v::vs) (d::ds)
inductive DnF (P:Addr→Obj→Prop):List DictEntry→List (Str×D)→Prop
  | nil:DnF P [] []
  | cons {h:Int} {x:Str} {t:Tok} {v:Value} {d:D} {es:List DictEntry} {fs:List (Str×D)}:Dn P v d→DnF P es fs→DnF P (⟨h,.str x t,v⟩::es) ((x,d)::fs)
inductive DnI (P:Addr→Obj→Prop):List DictEntry→List (Int×D)→Prop
  | nil:DnI P [] []
  | cons {k:Int} {t:Tok} {v:Value} {d:D} {es:List DictEntry} {tb:List (Int×D)}:Dn P v d→DnI P es tb→DnI P (⟨hashInt k,.int k t,v⟩::es) ((k,d)::tb)
end
section
variable {P P':Addr→Obj→Prop}(hs:∀ a o,P a o→P' a o)
include hs
theorem Dn.mono {v:Value}{d:D}(h:Dn P v d):Dn P' v d:=h.rec (motive_1:=fun v d ξ=>Dn P' v d) (motive_2:=fun vs ds ξ=>Dns P' vs ds) (motive_3:=fun es fs ξ=>DnF P' es fs) (motive_4:=fun es tb ξ=>DnI P' es tb)
    .none .bool .int .str .bytes (fun h ξ k=>.tup (hs _ _ h) k) (fun h ξ k=>.lst (hs _ _ h) k) (fun h1 h2 ξ k=>.obj (hs _ _ h1) (hs _ _ h2) k) (fun h1 h2 ξ k=>.dict h1 (hs _ _ h2) k) .val
    .nil (fun ξ ξ k1 k2=>.cons k1 k2) .nil (fun ξ ξ k1 k2=>.cons k1 k2) .nil (fun ξ ξ k1 k2=>.cons k1 k2)
theorem Dns.mono {vs:List Value}{ds:List D}(h:Dns P vs ds):Dns P' vs ds:=h.rec (motive_1:=fun v d ξ=>Dn P' v d) (motive_2:=fun vs ds ξ=>Dns P' vs ds) (motive_3:=fun es fs ξ=>DnF P' es fs) (motive_4:=fun es tb ξ=>DnI P' es tb)
    .none .bool .int .str .bytes (fun h ξ k=>.tup (hs _ _ h) k) (fun h ξ k=>.lst (hs _ _ h) k) (fun h1 h2 ξ k=>.obj (hs _ _ h1) (hs _ _ h2) k) (fun h1 h2 ξ k=>.dict h1 (hs _ _ h2) k) .val
    .nil (fun ξ ξ k1 k2=>.cons k1 k2) .nil (fun ξ ξ k1 k2=>.cons k1 k2) .nil (fun ξ ξ k1 k2=>.cons k1 k2)
theorem DnF.mono {es:List DictEntry}{fs:List (Str×D)}(h:DnF P es fs):DnF P' es fs:=h.rec (motive_1:=fun v d ξ=>Dn P' v d) (motive_2:=fun vs ds ξ=>Dns P' vs ds) (motive_3:=fun es fs ξ=>DnF P' es fs) (motive_4:=fun es tb ξ=>DnI P' es tb)
    .none .bool .int .str .bytes (fun h ξ k=>.tup (hs _ _ h) k) (fun h ξ k=>.lst (hs _ _ h) k) (fun h1 h2 ξ k=>.obj (hs _ _ h1) (hs _ _ h2) k) (fun h1 h2 ξ k=>.dict h1 (hs _ _ h2) k) .val
    .nil (fun ξ ξ k1 k2=>.cons k1 k2) .nil (fun ξ ξ k1 k2=>.cons k1 k2) .nil (fun ξ ξ k1 k2=>.cons k1 k2)
theorem DnI.mono {es:List DictEntry}{tb:List (Int×D)}(h:DnI P es tb):DnI P' es tb:=h.rec (motive_1:=fun v d ξ=>Dn P' v d) (motive_2:=fun vs ds ξ=>Dns P' vs ds) (motive_3:=fun es fs ξ=>DnF P' es fs) (motive_4:=fun es tb ξ=>DnI P' es tb)
    .none .bool .int .str .bytes (fun h ξ k=>.tup (hs _ _ h) k) (fun h ξ k=>.lst (hs _ _ h) k) (fun h1 h2 ξ k=>.obj (hs _ _ h1) (hs _ _ h2) k) (fun h1 h2 ξ k=>.dict h1 (hs _ _ h2) k) .val
    .nil (fun ξ ξ k1 k2=>.cons k1 k2) .nil (fun ξ ξ k1 k2=>.cons k1 k2) .nil (fun ξ ξ k1 k2=>.cons k1 k2)
end
inductive AV where
  | d (x:D)
  | loc (n:Nat)
inductive SO where
  | list (l:List AV)
  | inst (C:Addr) (fs:List (Str×AV))
  | ba (b:Array UInt8)
  | dead
inductive B1 {α β:Type} (R:α→β→Prop):List α→List β→Prop
  | nil:B1 R [] []
  | cons {a:α} {b:β} {as:List α} {bs:List β}:R a b→B1 R as bs→B1 R (a::as) (b::bs)
section
variable {α β:Type}{R R':α→β→Prop}
theorem B1.mono (h:∀ a b,R a b→R' a b){as:List α}{bs:List β}(k:B1 R as bs):B1 R' as bs:=by
  induction k with
  | nil=>exact .nil
  | cons x _ ih=>exact .cons (h _ _ x) ih
theorem B1.length {as:List α}{bs:List β}(k:B1 R as bs):as.length=bs.length:=by
  induction k with
  | nil=>rfl
  | cons _ _ ih=>exact congrArg (· + 1) ih
theorem B1.append {as:List α}{bs:List β}{as':List α}{bs':List β}(k:B1 R as bs)(k':B1 R as' bs'):B1 R (as++as') (bs++bs'):=by
  induction k with
  | nil=>exact k'
  | cons x _ ih=>exact .cons x ih
theorem B1.get {as:List α}{bs:List β}{i:Nat}{a:α}(k:B1 R as bs)(e:as[i]? = some a):∃ b,bs[i]? = some b∧R a b:=by
  induction k generalizing i with
  | nil=>cases e
  | cons x _ ih=>cases i with
    | zero=>exact ⟨_,rfl,Option.some.inj e ▸ x⟩
    | succ i=>exact ih e
theorem B1.take {as:List α}{bs:List β}(n:Nat)(k:B1 R as bs):B1 R (as.take n) (bs.take n):=by
  induction k generalizing n with
  | nil=>cases n <;> exact .nil
  | cons x _ ih=>cases n with
    | zero=>exact .nil
    | succ n=>exact .cons x (ih n)
theorem B1.drop {as:List α}{bs:List β}(n:Nat)(k:B1 R as bs):B1 R (as.drop n) (bs.drop n):=by
  induction k generalizing n with
  | nil=>cases n <;> exact .nil
  | cons x r ih=>cases n with
    | zero=>exact .cons x r
    | succ n=>exact ih n
theorem B1.reverse {as:List α}{bs:List β}(k:B1 R as bs):B1 R as.reverse bs.reverse:=by
  induction k with
  | nil=>exact .nil
  | cons x _ ih =>
    rw [List.reverse_cons,List.reverse_cons];exact ih.append (.cons x .nil)
end
noncomputable abbrev Lo:=List (Option AV)
noncomputable abbrev Sto:=List SO
noncomputable def Rv (P:Addr→Obj→Prop)(ad:List Addr):AV→Value→Prop
  | .d x,v=>Dn P v x
  | .loc n,v=>∃ a,ad[n]? = some a∧v=.ref a
inductive FsR (R:AV→Value→Prop):List (Str×AV)→List DictEntry→Prop
  | nil:FsR R [] []
  | cons {h:Int} {x:Str} {t:Tok} {v:Value} {av:AV} {es:List DictEntry} {fs:List (Str×AV)}:R av v→FsR R fs es→FsR R ((x,av)::fs) (⟨h,.str x t,v⟩::es)
noncomputable abbrev CY (b:Array UInt8):Obj:={cls:=.type "bytearray",data:=.bytearray b}
noncomputable def SO1 (R:AV→Value→Prop):SO→Addr→Led→Prop
  | .list l,a,ml=>∃ vs n,B1 R l vs∧ml=[(a,listOf vs.toArray n)]
  | .inst C fs,x,ml=>∃ dx es n,FsR R fs es∧ml=[(x,instObj C dx),(dx,dictOf es n)]
  | .ba b,a,ml=>ml=[(a,CY b)]
  | .dead,_,ml=>ml=[]
inductive SOs (R:AV→Value→Prop):Sto→List Addr→Led→Prop
  | nil:SOs R [] [] []
  | cons {o:SO} {a:Addr} {mid:Led} {σ:Sto} {ad:List Addr} {ml:Led}:SO1 R o a mid→SOs R σ ad ml→SOs R (o::σ) (a::ad) (mid++ml)
section
variable {R R':AV→Value→Prop}
theorem FsR.mono (h:∀ a b,R a b→R' a b){fs:List (Str×AV)}{es:List DictEntry}(k:FsR R fs es):FsR R' fs es:=by
  induction k with
  | nil=>exact .nil
  | cons x _ ih=>exact .cons (h _ _ x) ih
theorem SO1.mono (h:∀ a b,R a b→R' a b){o:SO}{a:Addr}{ml:Led}(k:SO1 R o a ml):SO1 R' o a ml:=by
  cases o with
  | list l=>exact k.imp fun ξ=>Exists.imp fun ξ=>And.imp_left (B1.mono h)
  | inst C fs=>exact k.imp fun ξ=>Exists.imp fun ξ=>Exists.imp fun ξ=>And.imp_left (FsR.mono h)
  | ba b=>exact k
  | dead=>exact k
theorem SOs.mono (h:∀ a b,R a b→R' a b){σ:Sto}{ad:List Addr}{ml:Led}(k:SOs R σ ad ml):SOs R' σ ad ml:=by
  induction k with
  | nil=>exact .nil
  | cons x _ ih=>exact .cons (x.mono h) ih
theorem SOs.append {σ σ':Sto}{ad ad':List Addr}{ml ml':Led}(k:SOs R σ ad ml)(k':SOs R σ' ad' ml'):SOs R (σ ++ σ') (ad++ad') (ml++ml'):=by
  induction k with
  | nil=>exact k'
  | cons x _ ih=>rw [List.append_assoc];exact .cons x ih
theorem SOs.length {σ:Sto}{ad:List Addr}{ml:Led}(k:SOs R σ ad ml):σ.length=ad.length:=by
  induction k with
  | nil=>rfl
  | cons _ _ ih=>exact congrArg (· + 1) ih
theorem SOs.one {o:SO}{a:Addr}{mid:Led}(x:SO1 R o a mid):SOs R [o] [a] mid:=by
  have y:=SOs.cons x SOs.nil;rw [List.append_nil] at y;exact y
theorem SOs.at_ {σ:Sto}{ad:List Addr}{ml:Led}{n:Nat}{o:SO}(k:SOs R σ ad ml)(e:σ[n]? = some o) :
    ∃ a pre mid post,ad[n]? = some a∧ml=pre++(mid++post)∧SO1 R o a mid∧∀ o' mid',SO1 R o' a mid'→SOs R (σ.set n o') ad (pre++(mid'++post)):=by
  induction k generalizing n with
  | nil=>cases e
  | @cons _ _ mid _ _ ml x r ih=>cases n with
    | zero=>exact ⟨_,[],mid,ml,rfl,rfl,Option.some.inj e ▸ x,fun ξ mid' k=>(SOs.cons k r:SOs R _ _ (mid'++ml))⟩
    | succ n =>
      obtain ⟨a,pre,mid,post,h1,h2,h3,h4⟩:=ih e;exact ⟨a,_++pre,mid,post,h1,by rw [h2,List.append_assoc],h3,fun o' mid' k=>by rw [List.append_assoc];exact .cons x (h4 o' mid' k)⟩
end
noncomputable def Pm (hT:Heap)(pl:Led)(a:Addr)(o:Obj):Prop:=(a,o)∈pl∨hT.get? a=some o
theorem Pm.mono {hT:Heap}{pl pl':Led}(h:∀ p∈pl,p∈pl'):∀ a o,Pm hT pl a o→Pm hT pl' a o:=fun ξ ξ x=>x.imp (h _) id
structure Cs where
  ad:List Addr
  ml:Led
  pl:Led
structure Cs.le (c c':Cs):Prop where
  ad:∃ x,c'.ad=c.ad++x
  pl:∀ p∈c.pl,p∈c'.pl
theorem Cs.le.refl (c:Cs):c.le c:=⟨⟨[],(List.append_nil _).symm⟩,fun ξ h=>h⟩
theorem Cs.le.trans {a b c:Cs}(h:a.le b)(k:b.le c):a.le c:=by
  obtain ⟨x,hx⟩:=h.ad;obtain ⟨y,hy⟩:=k.ad;exact ⟨⟨x++y,by rw [hy,hx,List.append_assoc]⟩,fun p hp=>k.pl p (h.pl p hp)⟩
noncomputable abbrev Rc (hT:Heap) (c:Cs):AV→Value→Prop:=Rv (Pm hT c.pl) c.ad
theorem Rc.mono {hT:Heap}{c c':Cs}(h:c.le c'):∀ av v,Rc hT c av v→Rc hT c' av v:=by
  intro av v x;cases av with
  | d y=>exact Dn.mono (Pm.mono h.pl) x
  | loc n =>
    obtain ⟨a,e,rfl⟩:=x;obtain ⟨y,hy⟩:=h.ad;refine ⟨a,?_,rfl⟩;rw [hy,List.getElem?_append_left (by rw [List.getElem?_eq_some_iff] at e;exact e.1)];exact e
structure Rep (hT h₀:Heap) (L:Addr) (h:Heap) (m:Str→Option Value) (σ:Sto) (c:Cs) (fx:Led):Prop where
  fr:Fr h₀ L h m
  nw:News h₀ L h (c.ml++(c.pl++fx))
  nd:((c.ml++(c.pl++fx)).map (·.1)).Nodup
  so:SOs (Rc hT c) σ c.ad c.ml
theorem Cn {h₀ h:Heap}{L:Addr}{l l':Led}(N:News h₀ L h l')(s:∀ p∈l,p∈l'):News h₀ L h l:=fun p hp=>N p (s p hp)
section
variable {hT h₀:Heap}{L:Addr}{h h':Heap}{m:Str→Option Value}{σ:Sto}{c:Cs}{fx:Led}
theorem Rep.nwf (r:Rep hT h₀ L h m σ c fx){p:Addr×Obj}(k:p∈fx):h.get? p.1=some p.2∧p.1≠L∧h₀.get? p.1=none:=r.nw p (List.mem_append_right _ (List.mem_append_right _ k))
theorem ne1 {b C:Addr}{o:Obj}(h:b ∉ [(C,o)].map (·.1)):b≠C:=fun e=>h (e ▸ .head _)
theorem mA {α:Type}{a:α}{l r:List α}:a∈l++a::r:=List.mem_append_right _ (.head _)
theorem Rep.lt (r:Rep hT h₀ L h m σ c fx):∀ p∈c.ml++(c.pl++fx),p.1 < h.objs.size:=fun p hp=>Heap.lt_size (r.nw p hp).1
theorem Rep.good (r:Rep hT h₀ L h m σ c fx)(hb:∀ b o,hT.get? b=some o→h₀.get? b=some o){a:Addr}{o:Obj}(x:Pm hT c.pl a o):h.get? a=some o:=by
  rcases x with x | x
  · exact (r.nw (a,o) (List.mem_append.mpr (.inr (List.mem_append.mpr (.inl x))))).1
  · exact r.fr.keep _ _ (hb _ _ x)
theorem Rep.addP {a:Addr}{o:Obj}(r:Rep hT h₀ L h m σ c fx)(F:Fr h₀ L h' m)(N:News h₀ L h' ((a,o)::(c.ml++(c.pl++fx)))) (ha:∀ p∈c.ml++(c.pl++fx),p.1 < a) :
    Rep hT h₀ L h' m σ {c with pl:=(a,o)::c.pl} fx where
  fr:=F
  nw:=Cn N fun p hp=>by
    rcases List.mem_append.mp hp with hp | hp
    · exact .tail _ (List.mem_append.mpr (.inl hp))
    · rcases List.mem_append.mp hp with hp | hp
      · rcases List.mem_cons.mp hp with rfl | hp
        · exact .head _
        · exact .tail _ (List.mem_append.mpr (.inr (List.mem_append.mpr (.inl hp))))
      · exact .tail _ (List.mem_append.mpr (.inr (List.mem_append.mpr (.inr hp))))
  nd:=by
    have key:((a,o)::(c.ml++(c.pl++fx))).map (·.1) |>.Nodup:=by
      rw [List.map_cons,List.nodup_cons];refine ⟨fun hm=>?_,r.nd⟩;obtain ⟨p,hp,e⟩:=List.mem_map.mp hm;have:=ha p hp;rw [e] at this;exact Nat.lt_irrefl _ this
    refine (List.Perm.nodup_iff ?_).mp key;refine List.Perm.map _ ?_;show ((a,o)::(c.ml++(c.pl++fx))).Perm (c.ml++((a,o)::(c.pl++fx)));exact List.perm_middle.symm
  so:=r.so.mono (Rc.mono ⟨⟨[],by exact (List.append_nil _).symm⟩,fun p hp=>.tail _ hp⟩)
theorem HB {c:Cs}{p:Addr×Obj}:c.le {c with pl:=p::c.pl}:=⟨⟨[],(List.append_nil _).symm⟩,fun ξ hp=>.tail _ hp⟩
theorem Rep.addM {o:SO}{a:Addr}{mid:Led}(r:Rep hT h₀ L h m σ c fx)(F:Fr h₀ L h' m)(N:News h₀ L h' (mid++(c.ml++(c.pl++fx))))(hm:∀ q∈mid,∀ p∈c.ml++(c.pl++fx),p.1 < q.1)
    (hn:(mid.map (·.1)).Nodup)(x:SO1 (Rc hT {c with ad:=c.ad++[a],ml:=c.ml++mid}) o a mid) :
    Rep hT h₀ L h' m (σ ++ [o]) {c with ad:=c.ad++[a],ml:=c.ml++mid} fx where
  fr:=F
  nw:=Cn N fun p hp=>by
    rcases List.mem_append.mp hp with hp | hp
    · rcases List.mem_append.mp hp with hp | hp
      · exact List.mem_append.mpr (.inr (List.mem_append.mpr (.inl hp)))
      · exact List.mem_append.mpr (.inl hp)
    · exact List.mem_append.mpr (.inr (List.mem_append.mpr (.inr hp)))
  nd:=by
    have key:((mid++(c.ml++(c.pl++fx))).map (·.1)).Nodup:=by
      rw [List.map_append,List.nodup_append];refine ⟨hn,r.nd,?_⟩;intro x hx y hy e;obtain ⟨q,hq,rfl⟩:=List.mem_map.mp hx;obtain ⟨p,hp,rfl⟩:=List.mem_map.mp hy;have:=hm q hq p hp;rw [e] at this;exact Nat.lt_irrefl _ this
    refine (List.Perm.nodup_iff ?_).mp key;refine List.Perm.map _ ?_;show (mid++(c.ml++(c.pl++fx))).Perm ((c.ml++mid)++(c.pl++fx));rw [← List.append_assoc];exact List.Perm.append_right _ List.perm_append_comm
  so:=by
    have y:=SOs.append (r.so.mono (Rc.mono (c':={c with ad:=c.ad++[a],ml:=c.ml++mid}) ⟨⟨[a],rfl⟩,fun p hp=>hp⟩)) (.one x);exact y
theorem GK {c:Cs}{a:List Addr}{ml:Led}:c.le {c with ad:=c.ad++a,ml:=ml}:=⟨⟨a,rfl⟩,fun ξ hp=>hp⟩
theorem Rep.setM {m':Str→Option Value}(r:Rep hT h₀ L h m σ c fx)(F:Fr h₀ L h' m')(N:News h₀ L h' (c.ml++(c.pl++fx))):Rep hT h₀ L h' m' σ c fx:=⟨F,N,r.nd,r.so⟩
end
theorem NJ {pre mid post fx:Led}(h:(((pre++(mid++post))++fx).map (·.1)).Nodup):(∀ q∈mid,∀ p∈pre,p.1≠q.1)∧∀ q∈mid,∀ p∈post++fx,p.1≠q.1:=by
  simp only [List.map_append,List.append_assoc,List.nodup_append] at h;obtain ⟨_,⟨_,_,h3⟩,h2⟩:=h;refine ⟨fun q hq p hp e=>h2 p.1 (List.mem_map_of_mem hp) q.1 (List.mem_append.mpr (.inl (List.mem_map_of_mem hq))) e,fun q hq p hp e=>?_⟩;refine h3 q.1 (List.mem_map_of_mem hq) p.1 ?_ e.symm;rw [← List.map_append];exact List.mem_map_of_mem hp
structure Gl where
  prog:Program
  w:World
  K:Frag
  p:Program
  loose:List Str
  mean:ExcName→Option Value
  mg:Str→Option Value
  mb:Str→Option Value
  hT:Heap
  X:K.In hT
  T:Top p loose mean mg mb hT
  imp:importsNone p=true
  tree:prog.given.tree=none
structure FeOk (fe:Env) (L:Addr):Prop where
  frame:fe.frame=some L
  kind:fe.scope.kind=.function
  gen:fe.scope.isGenerator=false
  co:fe.scope.isCoroutine=false
  bl:fe.builtins=builtinsNs
  gl:fe.globals=mainGlobals
structure Cx (G:Gl) (lv:Nat) (A:Around) (h₀:Heap) (L:Addr):Prop where
  st:∀ b o,G.hT.get? b=some o→h₀.get? b=some o
  hh:A.handled=none
  dep:A.depth+3 * lv+110 < recursionLimit
  un:A.units+100 * lv+100 < cLine
  fe:∃ (A₀:Around) (base:Heap) (outer:List Env) (fe:Env),Below A₀ base outer h₀∧A.frames=some (fe::outer)∧FeOk fe L
section
variable {G:Gl}{lv:Nat}{A:Around}{h₀:Heap}{L:Addr}
theorem Cx.X (C:Cx G lv A h₀ L):G.K.In h₀:=G.X.keeps C.st
theorem Cx.T (C:Cx G lv A h₀ L):Top G.p G.loose G.mean G.mg G.mb h₀:=G.T.keeps C.st
theorem Cx.le {lv':Nat}(C:Cx G lv A h₀ L)(h:lv'≤lv):Cx G lv' A h₀ L:=⟨C.st,C.hh,by have:=C.dep;omega,by have:=C.un;omega,C.fe⟩
end
structure BJ (env:Env):Prop where
  kind:env.scope.kind=.function
  gl:env.globals=mainGlobals
  bl:env.builtins=builtinsNs
noncomputable def NsObj (o:Obj)(m:Str→Option Value):Prop:=∃ es ep,o.data=.dict es ep∧StrKeys es∧∀ name,nsFind es name=m name
inductive Ta (env:Env) (L:Addr) (m:Str→Option Value) (fx:Led) (x:Str) (v:Value):Prop
  | loc:env.kindOf x=some .local→env.locals=L→m x=some v→Ta env L m fx x v
  | blk {o:Obj} {mm:Str→Option Value}:env.kindOf x=some .local→(env.locals,o)∈fx→NsObj o mm→mm x=some v→Ta env L m fx x v
  | cel {k:NameKind} {c:Addr} {o:Obj}:env.kindOf x=some k→(k=.cell∨k=.free)→env.cells.lookup x=some c→(c,o)∈fx→o.data=.cell (some v)→Ta env L m fx x v
noncomputable def NR (hT:Heap)(env:Env)(vars:List Str)(ρ:Lo)(L:Addr)(m:Str→Option Value)(fx:Led)(c:Cs):Prop:=
  ∀ (i:Nat) (av:AV),ρ[i]? = some (some av)→∃ (x:Str) (v:Value),vars[i]? = some x∧Rc hT c av v∧Ta env L m fx x v
theorem NR.mono {hT:Heap}{env:Env}{vars:List Str}{ρ:Lo}{L:Addr}{m:Str→Option Value}{fx:Led}{c c':Cs}(n:NR hT env vars ρ L m fx c)(h:c.le c'):NR hT env vars ρ L m fx c':=by
  intro i av e;obtain ⟨x,v,h1,h2,h3⟩:=n i av e;exact ⟨x,v,h1,Rc.mono h _ _ h2,h3⟩
noncomputable abbrev TE:=Lo→Sto→(AV→Sto→Prop)→Prop
noncomputable abbrev TEs:=Lo→Sto→(List AV→Sto→Prop)→Prop
noncomputable abbrev TT:=Lo→Sto→(Bool→Sto→Prop)→Prop
inductive Fl where
  | next
  | ret (v:AV)
  | brk
  | cont
noncomputable abbrev TS:=Lo→Sto→(Fl→Lo→Sto→Prop)→Prop
structure Pl (G:Gl) (lv:Nat) (env:Env) (vars:List Str) (A:Around) (h₀:Heap) (L:Addr) (m:Str→Option Value) (fx:Led) (ρ:Lo) (σ:Sto) (c:Cs) (s:Shared):Prop where
  cx:Cx G lv A h₀ L
  rep:Rep G.hT h₀ L s.heap m σ c fx
  nr:NR G.hT env vars ρ L m fx c
noncomputable def FZ {α:Type}(G:Gl)(lv:Nat)(env:Env)(vars:List Str)(tree:Sem α)(β:Type)(R:Heap→Cs→β→α→Prop)(t:Lo→Sto→(β→Sto→Prop)→Prop):Prop:=
  ∀ (A:Around) (h₀:Heap) (L:Addr) (m:Str→Option Value) (fx:Led) (ρ:Lo) (σ:Sto) (c:Cs) (s:Shared) (Q:β→Sto→Prop) (Qc:α→Shared→Prop) (E:Value→Shared→Prop),
    Pl G lv env vars A h₀ L m fx ρ σ c s→t ρ σ Q →
    (∀ b σ' v h' tk c',Q b σ'→Rep G.hT h₀ L h' m σ' c' fx→c.le c'→R G.hT c' b v→Qc v {s with heap:=h',toks:=tk}) →
    wpAny (model G.prog G.w) A tree Qc E s
noncomputable def Rb (_:Heap) (_:Cs)(b v:Bool):Prop:=v=b
noncomputable def Rl (hT:Heap)(c:Cs)(l:List AV)(vs:List Value):Prop:=B1 (Rc hT c) l vs
noncomputable abbrev Au (G:Gl) (lv:Nat) (env:Env) (vars:List Str) (e:Expr) (t:TE):Prop:=FZ G lv env vars (eval e env) AV Rc t
noncomputable abbrev Dg (G:Gl) (lv:Nat) (env:Env) (vars:List Str) (e:Expr) (t:TT):Prop:=FZ G lv env vars (isTrue e env (eval e env)) Bool Rb t
noncomputable abbrev Bw (G:Gl) (lv:Nat) (env:Env) (vars:List Str) (es:List Expr) (t:TEs):Prop:=
  ∀ pos:Pos,FZ G lv env vars (spliced (backTo pos (starEach es env))) (List AV) Rl t
section
variable {G:Gl}{lv:Nat}{env:Env}{vars:List Str}{A:Around}{h₀:Heap}{L:Addr}{m:Str→Option Value}{fx:Led}{ρ:Lo}{σ:Sto}{c:Cs}{s:Shared}
theorem Pl.good (P:Pl G lv env vars A h₀ L m fx ρ σ c s){a:Addr}{o:Obj}(x:Pm G.hT c.pl a o):s.heap.get? a=some o:=P.rep.good P.cx.st x
set_option tactic.hygienic true in
theorem Pl.next {σ':Sto}{c':Cs}{h':Heap}{tk:Nat}(P:Pl G lv env vars A h₀ L m fx ρ σ c s)(r:Rep G.hT h₀ L h' m σ' c' fx)(l:c.le c'):Pl G lv env vars A h₀ L m fx ρ σ' c' {s with heap:=h',toks:=tk}:=
  ⟨P.cx,r,P.nr.mono l⟩
theorem Pl.X (P:Pl G lv env vars A h₀ L m fx ρ σ c s):G.K.In s.heap:=P.cx.X.keeps P.rep.fr.keep
theorem Pl.T (P:Pl G lv env vars A h₀ L m fx ρ σ c s):Top G.p G.loose G.mean G.mg G.mb s.heap:=P.cx.T.keeps P.rep.fr.keep
end
structure Pv (G:Gl) (lv:Nat) (A:Around) (h₀:Heap) (L:Addr) (m:Str→Option Value) (fx:Led) (σ:Sto) (c:Cs) (s:Shared):Prop where
  cx:Cx G lv A h₀ L
  rep:Rep G.hT h₀ L s.heap m σ c fx
noncomputable abbrev Kn {α β:Type} (G:Gl) (h₀:Heap) (L:Addr) (m:Str→Option Value) (fx:Led) (c:Cs) (s:Shared) (R:Heap→Cs→β→α→Prop) (Q:β→Sto→Prop) (Qc:α→Shared→Prop):Prop:=
  ∀ b σ' v h' tk c',Q b σ'→Rep G.hT h₀ L h' m σ' c' fx→c.le c'→R G.hT c' b v→Qc v {s with heap:=h',toks:=tk}
section
variable {G:Gl}{lv:Nat}{A:Around}{h₀:Heap}{L:Addr}{m:Str→Option Value}{fx:Led}{σ:Sto}{c:Cs}{s:Shared}
theorem Pv.good (P:Pv G lv A h₀ L m fx σ c s){a:Addr}{o:Obj}(x:Pm G.hT c.pl a o):s.heap.get? a=some o:=P.rep.good P.cx.st x
set_option tactic.hygienic true in
theorem Pv.next {σ':Sto}{c':Cs}{h':Heap}{tk:Nat}(P:Pv G lv A h₀ L m fx σ c s)(r:Rep G.hT h₀ L h' m σ' c' fx):Pv G lv A h₀ L m fx σ' c' {s with heap:=h',toks:=tk}:=⟨P.cx,r⟩
theorem Pv.X (P:Pv G lv A h₀ L m fx σ c s):G.K.In s.heap:=P.cx.X.keeps P.rep.fr.keep
theorem Pv.T (P:Pv G lv A h₀ L m fx σ c s):Top G.p G.loose G.mean G.mg G.mb s.heap:=P.cx.T.keeps P.rep.fr.keep
theorem Pv.F (P:Pv G lv A h₀ L m fx σ c s):Fr h₀ L s.heap m:=P.rep.fr
theorem Pv.N (P:Pv G lv A h₀ L m fx σ c s):News h₀ L s.heap (c.ml++(c.pl++fx)):=P.rep.nw
theorem Pl.pv {env:Env}{vars:List Str}{ρ:Lo}(P:Pl G lv env vars A h₀ L m fx ρ σ c s):Pv G lv A h₀ L m fx σ c s:=⟨P.cx,P.rep⟩
end
noncomputable def A4A (P:Addr→Obj→Prop)(v:Value):D→Prop
  | .none=>v=.none
  | .bool b=>v=.bool b
  | .int i=>∃ t,v=.int i t
  | .str x=>∃ t,v=.str x t
  | .bytes b=>∃ t,v=.bytes b t
  | .tup ds=>∃ a vs n,v=.ref a∧P a {cls:=.type "tuple",data:=.seq (List.toArray vs) n}∧Dns P vs ds
  | .lst ds=>∃ a vs n,v=.ref a∧P a (listOf (List.toArray vs) n)∧Dns P vs ds
  | .obj C fs=>∃ x dx es n,v=.ref x∧P x (instObj C dx)∧P dx (dictOf es n)∧DnF P es fs
  | .dict tb=>∃ a es n,v=.ref a∧(a == sysModules)=false∧P a (dictOf es n)∧DnI P es tb
  | .val u=>v=u
theorem Dn.inv {P:Addr→Obj→Prop}{v:Value}{d:D}(h:Dn P v d):A4A P v d:=
  h.rec (motive_1:=fun v d ξ=>A4A P v d) (motive_2:=fun ξ ξ ξ=>True) (motive_3:=fun ξ ξ ξ=>True) (motive_4:=fun ξ ξ ξ=>True)
    rfl (fun ξ=>rfl) (fun ξ t=>⟨t,rfl⟩) (fun ξ t=>⟨t,rfl⟩) (fun ξ t=>⟨t,rfl⟩) (fun h r ξ=>⟨_,_,_,rfl,h,r⟩) (fun h r ξ=>⟨_,_,_,rfl,h,r⟩)
    (fun h1 h2 r ξ=>⟨_,_,_,_,rfl,h1,h2,r⟩) (fun h0 h r ξ=>⟨_,_,_,rfl,h0,h,r⟩) (fun ξ=>rfl) trivial (fun ξ ξ ξ ξ=>trivial) trivial (fun ξ ξ ξ ξ=>trivial) trivial (fun ξ ξ ξ ξ=>trivial)
theorem DY {hT:Heap}{c:Cs}{i:Int}{v:Value}(h:Rc hT c (.d (.int i)) v):∃ t,v=.int i t:=Dn.inv h
theorem DZ {hT:Heap}{c:Cs}{x:Str}{v:Value}(h:Rc hT c (.d (.str x)) v):∃ t,v=.str x t:=Dn.inv h
theorem Ff {hT:Heap}{c:Cs}{b:Bool}{v:Value}(h:Rc hT c (.d (.bool b)) v):v=.bool b:=Dn.inv h
theorem KU {hT:Heap}{c:Cs}{v:Value}(h:Rc hT c (.d .none) v):v=.none:=Dn.inv h
theorem UE {hT:Heap}{c:Cs}{v u:Value}(h:Rc hT c (.d (.val u)) v):v=u:=Dn.inv h
theorem Hg {hT:Heap}{c:Cs}{ds:List D}{v:Value}(h:Rc hT c (.d (.tup ds)) v):∃ a vs n,v=.ref a∧Pm hT c.pl a {cls:=.type "tuple",data:=.seq vs.toArray n}∧Dns (Pm hT c.pl) vs ds:=Dn.inv h
theorem A7x {hT:Heap}{c:Cs}{ds:List D}{v:Value}(h:Rc hT c (.d (.lst ds)) v):∃ a vs n,v=.ref a∧Pm hT c.pl a (listOf vs.toArray n)∧Dns (Pm hT c.pl) vs ds:=Dn.inv h
theorem A7y {hT:Heap}{c:Cs}{C:Addr}{fs:List (Str×D)}{v:Value}(h:Rc hT c (.d (.obj C fs)) v):∃ x dx es n,v=.ref x∧Pm hT c.pl x (instObj C dx)∧Pm hT c.pl dx (dictOf es n)∧DnF (Pm hT c.pl) es fs:=Dn.inv h
theorem P7 {hT:Heap}{c:Cs}{tb:List (Int×D)}{v:Value}(h:Rc hT c (.d (.dict tb)) v):∃ a es n,v=.ref a∧(a == sysModules)=false∧Pm hT c.pl a (dictOf es n)∧DnI (Pm hT c.pl) es tb:=Dn.inv h
theorem B1.nil_inv {α β:Type}{R:α→β→Prop}{vs:List β}(h:B1 R [] vs):vs=[]:=by
  cases h;rfl
theorem B1.cons_inv {α β:Type}{R:α→β→Prop}{a:α}{as:List α}{vs:List β}(h:B1 R (a::as) vs):∃ v us,vs=v::us∧R a v∧B1 R as us:=by
  cases h with | cons h t=>exact ⟨_,_,rfl,h,t⟩
theorem KR {P:Addr→Obj→Prop}{ad:List Addr}{vs:List Value}{ds:List D}(h:Dns P vs ds):B1 (Rv P ad) (ds.map .d) vs:=
  h.rec (motive_1:=fun ξ ξ ξ=>True) (motive_2:=fun vs ds ξ=>B1 (Rv P ad) (ds.map .d) vs) (motive_3:=fun ξ ξ ξ=>True) (motive_4:=fun ξ ξ ξ=>True)
    trivial (fun ξ=>trivial) (fun ξ ξ=>trivial) (fun ξ ξ=>trivial) (fun ξ ξ=>trivial) (fun ξ ξ ξ=>trivial) (fun ξ ξ ξ=>trivial) (fun ξ ξ ξ ξ=>trivial) (fun ξ ξ ξ ξ=>trivial) (fun ξ=>trivial)
    .nil (fun h ξ ξ ih=>.cons h ih) trivial (fun ξ ξ ξ ξ=>trivial) trivial (fun ξ ξ ξ ξ=>trivial)
theorem IC {P:Addr→Obj→Prop}{ad:List Addr}{vs:List Value}{ds:List D}(h:B1 (Rv P ad) (ds.map .d) vs):Dns P vs ds:=by
  induction ds generalizing vs with
  | nil=>rw [h.nil_inv];exact .nil
  | cons d ds ih =>
    obtain ⟨v,us,rfl,h1,h2⟩:=h.cons_inv;exact .cons h1 (ih h2)
theorem Dns.length {P:Addr→Obj→Prop}{vs:List Value}{ds:List D}(h:Dns P vs ds):vs.length=ds.length:=by
  rw [← (KR (ad:=[]) h).length,List.length_map]
theorem Dns.get {P:Addr→Obj→Prop}{vs:List Value}{ds:List D}{i:Nat}{d:D}(h:Dns P vs ds)(e:ds[i]? = some d):∃ v,vs[i]? = some v∧Dn P v d:=
  (KR (ad:=[]) h).get (a:=.d d) (by rw [List.getElem?_map,e];rfl)
noncomputable def AU (σ:Sto):AV→Option (List AV)
  | .d (.lst l)=>some (l.map .d)
  | .loc n=>match σ[n]? with
    | some (.list l)=>some l
    | _=>none
  | _=>none
section
variable {G:Gl}{lv:Nat}{A:Around}{h₀:Heap}{L:Addr}{m:Str→Option Value}{fx:Led}{σ:Sto}{c:Cs}{s:Shared}
theorem YS (P:Pv G lv A h₀ L m fx σ c s){n:Nat}{l:List AV}(e:σ[n]? = some (.list l)) :
    ∃ a vs k pre post,c.ad[n]? = some a∧c.ml=pre++((a,listOf vs.toArray k)::post)∧B1 (Rc G.hT c) l vs∧s.heap.get? a=some (listOf vs.toArray k) ∧
      ∀ l' vs' k',B1 (Rc G.hT c) l' vs'→SOs (Rc G.hT c) (σ.set n (.list l')) c.ad (pre++((a,listOf vs'.toArray k')::post)):=by
  obtain ⟨a,pre,mid,post,h1,h2,⟨vs,k,x,rfl⟩,h4⟩:=P.rep.so.at_ e;refine ⟨a,vs,k,pre,post,h1,h2,x,(P.rep.nw (a,_) ?_).1,fun l' vs' k' y=>h4 (.list l') [(a,listOf vs'.toArray k')] ⟨vs',k',y,rfl⟩⟩;rw [h2];simp
set_option tactic.hygienic true in
theorem Bo (P:Pv G lv A h₀ L m fx σ c s){av:AV}{v:Value}{l:List AV}(h:Rc G.hT c av v)(e:AU σ av=some l) :
    ∃ a vs k,v=.ref a∧s.heap.get? a=some (listOf vs.toArray k)∧B1 (Rc G.hT c) l vs:=by
  unfold AU at e;split at e
  · cases e
    obtain ⟨a,vs,n,rfl,h1,h2⟩:=A7x h;exact ⟨a,vs,n,rfl,P.good h1,KR h2⟩
  · split at e
    · rename_i n _ e'
      cases e;obtain ⟨a,vs,k,pre,post,h1,h2,h3,h4,_⟩:=YS P e';obtain ⟨b,h5,rfl⟩:=h;have:a=b:=by rw [h1] at h5;exact Option.some.inj h5
      subst this;exact ⟨a,vs,k,rfl,h4,h3⟩
    · cases e
  · cases e
theorem BV {h:Heap}{a:Addr}{vs:List Value}{k:Nat}(e:h.get? a=some (listOf vs.toArray k)):h.IsList a vs.toArray:=⟨_,e,rfl,_,rfl⟩
theorem A2g {vs:List Value}{l:List AV}{h':Heap}{n:Nat}(P:Pv G lv A h₀ L m fx σ c s)(x:B1 (Rc G.hT c) l vs){a:Addr}(F:Fr h₀ L h' m)(N:News h₀ L h' ((a,listOf vs.toArray n)::(c.ml++(c.pl++fx)))) (ha:∀ p∈c.ml++(c.pl++fx),p.1 < a) :
    Rep G.hT h₀ L h' m (σ ++ [.list l]) {c with ad:=c.ad++[a],ml:=c.ml++[(a,listOf vs.toArray n)]} fx:=
  P.rep.addM F N (fun q hq p hp=>by rw [List.mem_singleton.mp hq];exact ha p hp) (by simp) ⟨_,_,x.mono (Rc.mono GK),rfl⟩
theorem HK {a:Addr}{x:Led}(r:σ.length=c.ad.length):Rc G.hT {c with ad:=c.ad++[a],ml:=x} (.loc σ.length) (.ref a):=⟨a,by rw [r];simp,rfl⟩
theorem newT {vs:List Value}{ds:List D}{h':Heap}{n:Nat}(P:Pv G lv A h₀ L m fx σ c s){a:Addr}(F:Fr h₀ L h' m)(x:Dns (Pm G.hT c.pl) vs ds)(N:News h₀ L h' ((a,({cls:=.type "tuple",data:=.seq vs.toArray n}:Obj))::(c.ml++(c.pl++fx)))) (ha:∀ p∈c.ml++(c.pl++fx),p.1 < a) :
    Rep G.hT h₀ L h' m σ {c with pl:=(a,({cls:=.type "tuple",data:=.seq vs.toArray n}:Obj))::c.pl} fx∧Rc G.hT {c with pl:=(a,({cls:=.type "tuple",data:=.seq vs.toArray n}:Obj))::c.pl} (.d (.tup ds)) (.ref a):=
  ⟨P.rep.addP F N ha,.tup (.inl (.head _)) (x.mono (Pm.mono fun ξ h=>.tail _ h))⟩
theorem newF {vs:List Value}{ds:List D}{h':Heap}{n:Nat}(P:Pv G lv A h₀ L m fx σ c s){a:Addr}(F:Fr h₀ L h' m)(x:Dns (Pm G.hT c.pl) vs ds)(N:News h₀ L h' ((a,listOf vs.toArray n)::(c.ml++(c.pl++fx)))) (ha:∀ p∈c.ml++(c.pl++fx),p.1 < a) :
    Rep G.hT h₀ L h' m σ {c with pl:=(a,listOf vs.toArray n)::c.pl} fx∧Rc G.hT {c with pl:=(a,listOf vs.toArray n)::c.pl} (.d (.lst ds)) (.ref a):=
  ⟨P.rep.addP F N ha,.lst (.inl (.head _)) (x.mono (Pm.mono fun ξ h=>.tail _ h))⟩
end
noncomputable def tD (x:D):TE:=fun ξ σ Q=>Q (.d x) σ
noncomputable def Ag (i:Nat):TE:=fun ρ σ Q=>match ρ[i]? with
  | some (some av)=>Q av σ
  | _=>False
section
variable {G:Gl}{lv:Nat}{env:Env}{vars:List Str}
theorem S_int {i:Int}{k:Nat}{pos:Pos}:Au G lv env vars (.Constant (.int i) k pos) (tD (.int i)):=
  fun ξ ξ ξ ξ ξ ξ ξ c s ξ ξ ξ P q k=>wpAny_Constant_int (k _ _ _ s.heap (s.toks+1) c q P.rep (.refl c) (.int i _))
theorem S_str {x:Str}{k:Nat}{pos:Pos}:Au G lv env vars (.Constant (.str x) k pos) (tD (.str x)):=
  fun ξ ξ ξ ξ ξ ξ ξ c s ξ ξ ξ P q k=>wpAny_Constant_str (k _ _ _ s.heap (s.toks+1) c q P.rep (.refl c) (.str x _))
theorem A5H {k:Nat}{pos:Pos}:Au G lv env vars (.Constant .none k pos) (tD .none):=
  fun ξ ξ ξ ξ ξ ξ ξ c s ξ ξ ξ P q k=>wpAny_Constant_none (k _ _ _ s.heap s.toks c q P.rep (.refl c) .none)
theorem A5A {b:Bool}{k:Nat}{pos:Pos}:Au G lv env vars (.Constant (.bool b) k pos) (tD (.bool b)):=
  fun ξ ξ ξ ξ ξ ξ ξ c s ξ ξ ξ P q k=>wpAny_Constant_bool (k _ _ _ s.heap s.toks c q P.rep (.refl c) (.bool b))
set_option tactic.hygienic true in
theorem S_var {i:Nat}{x:Str}{pos:Pos}(he:BJ env)(hx:vars[i]? = some x)(hd:(x == ("__debug__" : Str))=false)(hn:(x == ("__classdict__" : Str))=false) :
    Au G lv env vars (.Name x pos) (Ag i):=by
  intro A h₀ L m fx ρ σ c s Q Qc E P q k;unfold Ag at q;split at q
  · rename_i av e
    obtain ⟨y,v,h1,h2,h3⟩:=P.nr i av e;have hy:y=x:=by rw [hx] at h1;exact (Option.some.inj h1).symm
    subst hy;have fin:Qc v s:=k _ _ _ s.heap s.toks c q P.rep (.refl c) h2;cases h3 with
    | loc hk hl hm=>exact wpAny_Name (wpAny_loadName_local he.kind hk (by rw [hl];exact P.rep.fr.ns) hm fin) hd
    | blk hk hf hm hv =>
      obtain ⟨es,ep,h6,h7,h8⟩:=hm;have hg:=(P.rep.nw _ (List.mem_append.mpr (.inr (List.mem_append.mpr (.inr hf))))).1;exact wpAny_Name (wpAny_loadName_local (m:=_) he.kind hk ⟨_,es,ep,hg,h6,h7,h8⟩ hv fin) hd
    | cel hk hc hl hf hv =>
      have hg:=(P.rep.nw _ (List.mem_append.mpr (.inr (List.mem_append.mpr (.inr hf))))).1;rcases hc with rfl | rfl
      · exact wpAny_Name (wpAny_loadName_cell he.kind hk hl ⟨_,hg,hv⟩ fin) hd
      · exact wpAny_Name (wpAny_loadName_free he.kind hk hl ⟨_,hg,hv⟩ fin hn) hd
  · exact q.elim
theorem A5G {x:Str}{v:Value}{d:D}{pos:Pos}(he:BJ env)(e:nsIn G.K mainGlobals x=some (some v))(h:Dn (Pm G.hT []) v d)(hx:env.kindOf x=some .globalImplicit)(hd:(x == ("__debug__" : Str))=false) :
    Au G lv env vars (.Name x pos) (tD d):=by
  intro A h₀ L m fx ρ σ c s Q Qc E P q k;refine nameG_K P.rep.fr P.cx.X (topRead_of P.cx.T) e ?_ he.gl he.kind hx hd;exact k _ _ _ s.heap s.toks c q P.rep (.refl c) (h.mono (Pm.mono fun ξ hp=>absurd hp List.not_mem_nil))
theorem S_blt {x:Str}{v:Value}{pos:Pos}(he:BJ env)(e:nsIn G.K mainGlobals x=some none)(h:bootBuiltins x=some v)(hx:env.kindOf x=some .globalImplicit)(hn:x ≠ "__name__")(hd:(x == ("__debug__" : Str))=false) :
    Au G lv env vars (.Name x pos) (tD (.val v)):=by
  intro A h₀ L m fx ρ σ c s Q Qc E P q k;refine Name_function_global he.kind hx (loadGlobal_builtin (env:=env) (by rw [he.gl];exact P.T.g) (mg_none_of P.cx.X P.cx.T.g e) (by rw [he.bl];exact P.T.b) ((P.cx.T.builtins x hn).trans h) ?_) hd;exact k _ _ _ s.heap s.toks c q P.rep (.refl c) (.val v)
end
noncomputable abbrev F2:=AV→AV→Sto→(AV→Sto→Prop)→Prop
noncomputable def Aq (f:F2)(ta tb:TE):TE:=fun ρ σ Q=>ta ρ σ fun a σ₁=>tb ρ σ₁ fun b σ₂=>f a b σ₂ Q
noncomputable def Op2 (G:Gl)(lv:Nat)(tree:Value→Value→Sem Value)(f:F2):Prop:=
  ∀ (A:Around) (h₀:Heap) (L:Addr) (m:Str→Option Value) (fx:Led) (σ:Sto) (c:Cs) (s:Shared) (a b:AV) (va vb:Value) (Q:AV→Sto→Prop) (Qc:Value→Shared→Prop) (E:Value→Shared→Prop),
    Pv G lv A h₀ L m fx σ c s→Rc G.hT c a va→Rc G.hT c b vb→f a b σ Q→Kn G h₀ L m fx c s Rc Q Qc→wpAny (model G.prog G.w) A (tree va vb) Qc E s
theorem Kn.after {α β:Type}{G:Gl}{h₀:Heap}{L:Addr}{m:Str→Option Value}{fx:Led}{c c':Cs}{s:Shared}{R:Heap→Cs→β→α→Prop}{Q:β→Sto→Prop}{Qc:α→Shared→Prop}{h':Heap}{tk:Nat}(k:Kn G h₀ L m fx c s R Q Qc)(l:c.le c'):Kn G h₀ L m fx c' {s with heap:=h',toks:=tk} R Q Qc:=
  fun b σ' v h2 tk2 c2 q r l2 x=>k b σ' v h2 tk2 c2 q r (l.trans l2) x
section
variable {G:Gl}{lv:Nat}{env:Env}{vars:List Str}
set_option tactic.hygienic true in
theorem A3d {l r:Expr}{op:Operator}{pos:Pos}{ta tb:TE}{f:F2}(hl:Au G lv env vars l ta)(hr:Au G lv env vars r tb)(ho:Op2 G lv (binaryOp op) f):Au G lv env vars (.BinOp l op r pos) (Aq f ta tb):=by
  intro A h₀ L m fx ρ σ c s Q Qc E P q k;refine wpAny_BinOp (hl A h₀ L m fx ρ σ c s _ _ E P q fun a σ₁ va h₁ tk₁ c₁ q₁ r₁ l₁ x₁=>?_);refine hr A h₀ L m fx ρ σ₁ c₁ _ _ _ E (P.next r₁ l₁) q₁ fun b σ₂ vb h₂ tk₂ c₂ q₂ r₂ l₂ x₂=>?_;exact ho A h₀ L m fx σ₂ c₂ _ a b va vb Q Qc E ⟨P.cx,r₂⟩ (Rc.mono l₂ _ _ x₁) x₂ q₂ (Kn.after (Kn.after k l₁) l₂)
end
noncomputable abbrev XF2:=AV→AV→Sto→Option (AV×Sto)
noncomputable def fX (g:XF2):F2:=fun a b σ Q=>∃ r,g a b σ = some r∧Q r.1 r.2
noncomputable def mB {α β γ:Type}(o:Option α)(p:Option β)(f:α→β→Option γ)(z:Option γ):Option γ:=match o with
  | none=>z
  | some i=>match p with
    | none=>z
    | some j=>f i j
theorem A37 {α β γ:Type}{o:Option α}{p:Option β}{f:α→β→Option γ}{z:Option γ}{r:γ}(e:mB o p f z=some r):(∃ i j,o=some i∧p=some j∧f i j=some r)∨z=some r:=by
  cases o with
  | none=>exact .inr e
  | some i=>cases p with
    | none=>exact .inr e
    | some j=>exact .inl ⟨i,j,rfl,rfl,e⟩
theorem Az {α β:Type}{o:Option α}{f:α→Option β}{b:β}(h:o.bind f=some b):∃ a,o=some a∧f a=some b:=by
  cases o with
  | none=>cases h
  | some a=>exact ⟨a,rfl,h⟩
theorem Bx {α β:Type}{o:Option α}{f:α→β}{b:β}(h:o.map f=some b):∃ a,o=some a∧f a=b:=by
  cases o with
  | none=>cases h
  | some a=>exact ⟨a,rfl,Option.some.inj h⟩
theorem Ck {α:Type}{a:α}{p:Prop}(h:(none:Option α)=some a):p:=nomatch h
theorem Bq {α:Type}{c:Prop} [Decidable c] {a b:α}(h:(if c then some a else none)=some b):c∧a=b:=by
  by_cases k:c
  · rw [if_pos k] at h;exact ⟨k,Option.some.inj h⟩
  · rw [if_neg k] at h;cases h
theorem VV {α:Type}{c:Prop} [Decidable c] {a b:α}(h:(if c then none else some a)=some b):¬ c∧a=b:=by
  by_cases k:c
  · rw [if_pos k] at h;cases h
  · rw [if_neg k] at h;exact ⟨k,Option.some.inj h⟩
noncomputable def asI:AV→Option Int
  | .d (.int i)=>some i
  | _=>none
noncomputable def asS:AV→Option Str
  | .d (.str x)=>some x
  | _=>none
theorem Mq {a:AV}{i:Int}(h:asI a=some i):a=.d (.int i):=by
  cases a with
  | loc n=>cases h
  | d x=>cases x <;> cases h;rfl
theorem Mr {a:AV}{x:Str}(h:asS a=some x):a=.d (.str x):=by
  cases a with
  | loc n=>cases h
  | d x=>cases x <;> cases h;rfl
noncomputable def a1 {β:Type}(l:List AV)(f:AV→Option β):Option β:=match l with
  | [a]=>f a
  | _=>none
noncomputable def a2 {β:Type}(l:List AV)(f:AV→AV→Option β):Option β:=match l with
  | [a,b]=>f a b
  | _=>none
noncomputable def a3 {β:Type}(l:List AV)(f:AV→AV→AV→Option β):Option β:=match l with
  | [a,b,d]=>f a b d
  | _=>none
section
variable {β:Type}{l:List AV}{r:β}
theorem JJ {f:AV→Option β}(e:a1 l f=some r):∃ a,l=[a]∧f a=some r:=by
  cases l with
  | nil=>exact Ck e
  | cons a l=>cases l with
    | nil=>exact ⟨a,rfl,e⟩
    | cons=>exact Ck e
theorem Pe {f:AV→AV→Option β}(e:a2 l f=some r):∃ a b,l=[a,b]∧f a b=some r:=by
  cases l with
  | nil=>exact Ck e
  | cons a l=>cases l with
    | nil=>exact Ck e
    | cons b l=>cases l with
      | nil=>exact ⟨a,b,rfl,e⟩
      | cons=>exact Ck e
theorem A4H {f:AV→AV→AV→Option β}(e:a3 l f=some r):∃ a b d,l=[a,b,d]∧f a b d=some r:=by
  cases l with
  | nil=>exact Ck e
  | cons a l=>cases l with
    | nil=>exact Ck e
    | cons b l=>cases l with
      | nil=>exact Ck e
      | cons d l=>cases l with
        | nil=>exact ⟨a,b,d,rfl,e⟩
        | cons=>exact Ck e
theorem oB {α:Type}{o:Option α}{f:α→Option β}{P:Prop}(e:o.bind f=some r)(k:∀ a,o=some a→f a=some r→P):P:=by
  cases o with
  | none=>cases e
  | some a=>exact k a rfl e
theorem oI {c:Prop} [Decidable c] {A:Option β}{P:Prop}(e:(if c then A else none)=some r)(k:c→A=some r→P):P:=by
  by_cases h:c
  · rw [if_pos h] at e;exact k h e
  · rw [if_neg h] at e;cases e
end
noncomputable def asBo:AV→Option Bool
  | .d (.bool b)=>some b
  | _=>none
theorem A5S {a:AV}{b:Bool}(h:asBo a=some b):a=.d (.bool b):=by
  cases a with
  | loc n=>cases h
  | d x=>cases x <;> cases h;rfl
noncomputable def XL:Option SO→Option (List AV)
  | some (.list l)=>some l
  | _=>none
noncomputable def baAt:Option SO→Option (Array UInt8)
  | some (.ba b)=>some b
  | _=>none
theorem ZW {o:Option SO}{l:List AV}(e:XL o=some l):o=some (.list l):=by
  cases o with
  | none=>cases e
  | some o=>cases o <;> cases e;rfl
theorem A3y {o:Option SO}{b:Array UInt8}(e:baAt o=some b):o=some (.ba b):=by
  cases o with
  | none=>cases e
  | some o=>cases o <;> cases e;rfl
noncomputable def A0Y:AV→Option Nat
  | .loc n=>some n
  | _=>none
noncomputable def A0Z (σ:Sto)(a:AV):Option (Nat×List AV):=(A0Y a).bind fun n=>(XL σ[n]?).bind fun l=>some (n,l)
noncomputable def asBa (σ:Sto)(a:AV):Option (Nat×Array UInt8):=(A0Y a).bind fun n=>(baAt σ[n]?).bind fun l=>some (n,l)
theorem Vc {a:AV}{n:Nat}(e:A0Y a=some n):a=.loc n:=by
  cases a with
  | loc n=>cases e;rfl
  | d x=>cases e
theorem Tj {σ:Sto}{a:AV}{p:Nat×List AV}(e:A0Z σ a=some p):a=.loc p.1∧σ[p.1]? = some (.list p.2):=
  oB e fun n e1 e=>oB e fun l e2 e=>by obtain rfl:=Option.some.inj e;exact ⟨Vc e1,ZW e2⟩
theorem Yz {σ:Sto}{a:AV}{p:Nat×Array UInt8}(e:asBa σ a=some p):a=.loc p.1∧σ[p.1]? = some (.ba p.2):=
  oB e fun n e1 e=>oB e fun l e2 e=>by obtain rfl:=Option.some.inj e;exact ⟨Vc e1,A3y e2⟩
theorem rcI {hT:Heap}{c:Cs}{a:AV}{i:Int}{v:Value}(r:Rc hT c a v)(h:asI a=some i):∃ t,v=.int i t:=by
  rw [Mq h] at r;exact DY r
theorem rcS {hT:Heap}{c:Cs}{a:AV}{x:Str}{v:Value}(r:Rc hT c a v)(h:asS a=some x):∃ t,v=.str x t:=by
  rw [Mr h] at r;exact DZ r
noncomputable def Q8 (a b:Int):Bool:=!(decide (Builtin.Int.intBits a > shortFactorBits) && decide (Builtin.Int.intBits b > shortFactorBits) && Builtin.Int.intTooBig (Builtin.Int.intBits a+Builtin.Int.intBits b))
noncomputable def AH:XF2:=fun a b σ=>mB (asI a) (asI b) (fun i j=>some (.d (.int (i+j)),σ)) <| mB (asS a) (asS b) (fun x y=>if x.length+y.length≤sizeLine then some (.d (.str (x++y)),σ) else none) <|
  (AU σ a).bind fun l=>(AU σ b).bind fun l'=>if l.length+l'.length≤sizeLine then some (.loc σ.length,σ ++ [.list (l++l')]) else none
noncomputable def J2:XF2:=fun a b σ=>mB (asI a) (asI b) (fun i j=>some (.d (.int (i - j)),σ)) none
noncomputable def Lz:XF2:=fun a b σ=>mB (asI a) (asI b) (fun i j=>if Q8 i j=true then some (.d (.int (i * j)),σ) else none) <| mB (asS a) (asI b) (fun x n=>if n=1 then some (.d (.str x),σ) else none) <|
  (asI b).bind fun n=>(AU σ a).bind fun l=>if 0≤n∧n≤1000∧l.length≤1000∧l.isEmpty=false then some (.loc σ.length,σ ++ [.list (List.replicate n.toNat l).flatten]) else none
noncomputable def Ch:XF2:=fun a b σ=>mB (asI a) (asI b) (fun i j=>if j=0 then none else some (.d (.int (i.fmod j)),σ)) none
noncomputable def JC:XF2:=fun a b σ=>mB (asI a) (asI b) (fun i j=>if j=0 then none else some (.d (.int (i.fdiv j)),σ)) none
noncomputable def A4u:XF2:=fun a b σ=>mB (asI a) (asI b) (fun i j=>if 0≤j∧(Builtin.Int.intBits i:Int) * j≤2 ^ 27 then some (.d (.int (i ^ j.toNat)),σ) else none) none
noncomputable abbrev Bl:F2:=fX AH
noncomputable abbrev VH:F2:=fX J2
noncomputable abbrev A1o:F2:=fX Lz
noncomputable abbrev CW:F2:=fX Ch
noncomputable abbrev Oz:F2:=fX JC
noncomputable abbrev fPow:F2:=fX A4u
section
variable {G:Gl}{lv:Nat}
noncomputable def Pa (G:Gl)(lv:Nat)(tree:Value→Value→Sem Value){α β:Type}(pa:AV→Option α)(pb:AV→Option β)(f:α→β→Sto→Option (AV×Sto)):Prop:=
  ∀ (A:Around) (h₀:Heap) (L:Addr) (m:Str→Option Value) (fx:Led) (σ:Sto) (c:Cs) (s:Shared) (a b:AV) (va vb:Value) (i:α) (j:β) (r:AV×Sto) (Q:AV→Sto→Prop) (Qc:Value→Shared→Prop) (E:Value→Shared→Prop),
    Pv G lv A h₀ L m fx σ c s→Rc G.hT c a va→Rc G.hT c b vb→pa a=some i→pb b=some j→f i j σ = some r→Q r.1 r.2→Kn G h₀ L m fx c s Rc Q Qc→wpAny (model G.prog G.w) A (tree va vb) Qc E s
theorem GH {tree:Value→Value→Sem Value}{α β:Type}{pa:AV→Option α}{pb:AV→Option β}{f:α→β→Sto→Option (AV×Sto)}{z:XF2}(h:Pa G lv tree pa pb f)(hz:Op2 G lv tree (fX z)):Op2 G lv tree (fX fun a b σ=>mB (pa a) (pb b) (fun i j=>f i j σ) (z a b σ)):=by
  intro A h₀ L m fx σ c s a b va vb Q Qc E P ra rb ⟨r,e,q⟩ k;rcases A37 e with ⟨i,j,h1,h2,e⟩ | e
  · exact h A h₀ L m fx σ c s a b va vb i j r Q Qc E P ra rb h1 h2 e q k
  · exact hz A h₀ L m fx σ c s a b va vb Q Qc E P ra rb ⟨r,e,q⟩ k
theorem Us {tree:Value→Value→Sem Value}:Op2 G lv tree (fX fun ξ ξ ξ=>none):=fun ξ ξ ξ ξ ξ ξ ξ ξ ξ ξ ξ ξ ξ ξ ξ ξ ξ ξ ⟨_,e,_⟩ ξ=>nomatch e
theorem W0 {tree:Value→Value→Sem Value}{f:Int→Int→Sto→Option (AV×Sto)}
    (h:∀ (A:Around)(h₀:Heap)(L:Addr)(m:Str→Option Value)(fx:Led)(σ:Sto)(c:Cs)(s:Shared)(i j:Int)(t u:Tok)(Q:AV→Sto→Prop)(Qc:Value→Shared→Prop)(E:Value→Shared→Prop)(r:AV×Sto),Pv G lv A h₀ L m fx σ c s→f i j σ = some r→Q r.1 r.2→Kn G h₀ L m fx c s Rc Q Qc→wpAny (model G.prog G.w) A (tree (.int i t) (.int j u)) Qc E s) :
    Pa G lv tree asI asI f:=by
  intro A h₀ L m fx σ c s a b va vb i j r Q Qc E P ra rb h1 h2 e q k;obtain ⟨t,rfl⟩:=rcI ra h1;obtain ⟨u,rfl⟩:=rcI rb h2;exact h A h₀ L m fx σ c s i j t u Q Qc E r P e q k
theorem A18 {tree:Value→Value→Sem Value}{f:Str→Str→Sto→Option (AV×Sto)}
    (h:∀ (A:Around)(h₀:Heap)(L:Addr)(m:Str→Option Value)(fx:Led)(σ:Sto)(c:Cs)(s:Shared)(i j:Str)(t u:Tok)(Q:AV→Sto→Prop)(Qc:Value→Shared→Prop)(E:Value→Shared→Prop)(r:AV×Sto),Pv G lv A h₀ L m fx σ c s→f i j σ = some r→Q r.1 r.2→Kn G h₀ L m fx c s Rc Q Qc→wpAny (model G.prog G.w) A (tree (.str i t) (.str j u)) Qc E s) :
    Pa G lv tree asS asS f:=by
  intro A h₀ L m fx σ c s a b va vb i j r Q Qc E P ra rb h1 h2 e q k;obtain ⟨t,rfl⟩:=rcS ra h1;obtain ⟨u,rfl⟩:=rcS rb h2;exact h A h₀ L m fx σ c s i j t u Q Qc E r P e q k
theorem Km {tree:Value→Value→Sem Value}{f:Int→Int→Sto→Option (AV×Sto)}
    (h:∀ (A:Around)(h₀:Heap)(L:Addr)(m:Str→Option Value)(fx:Led)(σ:Sto)(c:Cs)(s:Shared)(i j:Int)(t u:Tok)(Q:AV→Sto→Prop)(Qc:Value→Shared→Prop)(E:Value→Shared→Prop)(r:AV×Sto),Pv G lv A h₀ L m fx σ c s→f i j σ = some r→Q r.1 r.2→Kn G h₀ L m fx c s Rc Q Qc→wpAny (model G.prog G.w) A (tree (.int i t) (.int j u)) Qc E s) :
    Op2 G lv tree (fX fun a b σ=>mB (asI a) (asI b) (fun i j=>f i j σ) none):=
  GH (W0 h) Us
theorem Pb:Op2 G lv (binaryOp .Sub) (fX J2):=Km fun ξ ξ ξ ξ ξ ξ c s ξ ξ ξ ξ ξ ξ ξ ξ P e q k=>by
  cases e;exact PyProof.Rows.sub_int (k _ _ _ s.heap (s.toks+1) c q P.rep (.refl c) (.int _ _))
theorem BS:Op2 G lv (binaryOp .Mod) (fX Ch):=Km fun ξ ξ ξ ξ ξ ξ c s ξ ξ ξ ξ ξ ξ ξ ξ P e q k=>by
  obtain ⟨h,e⟩:=VV e;cases e;exact PyProof.Rows.mod_int' h (k _ _ _ s.heap (s.toks+1) c q P.rep (.refl c) (.int _ _))
theorem JE:Op2 G lv (binaryOp .FloorDiv) (fX JC):=Km fun A ξ ξ ξ ξ ξ c s ξ ξ ξ ξ ξ ξ ξ ξ P e q k=>by
  obtain ⟨h,e⟩:=VV e;cases e;obtain ⟨A₀,base,outer,fe,hB,hf,ho⟩:=P.cx.fe;refine PyProof.Rows.floordiv_int h (k _ _ _ s.heap (s.toks+1) c q P.rep (.refl c) (.int _ _)) (.inr (PylongRoom.of P.T.nolimit ?_ (SeerAt.of (P.T.seer G.imp) G.tree hf ho.gen ho.co ho.bl ho.gl)));have:=P.cx.dep;show A.depth+100 < recursionLimit;omega
theorem O_pow:Op2 G lv (binaryOp .Pow) (fX A4u):=Km fun ξ ξ ξ ξ ξ ξ c s ξ ξ ξ ξ ξ ξ ξ ξ P e q k=>by
  obtain ⟨h,e⟩:=Bq e;cases e;exact PyProof.Rows.pow_int h.1 h.2 (k _ _ _ s.heap (s.toks+1) c q P.rep (.refl c) (.int _ _))
theorem A5e:Op2 G lv (binaryOp .Add) (fX fun a b σ=>(AU σ a).bind fun l=>(AU σ b).bind fun l'=>if l.length+l'.length≤sizeLine then some (.loc σ.length,σ ++ [.list (l++l')]) else none):=by
  intro A h₀ L m fx σ c s a b va vb Q Qc E P ra rb ⟨r,e,q⟩ k;obtain ⟨l,e1,e⟩:=Az e;obtain ⟨l',e2,e⟩:=Az e;obtain ⟨hz,rfl⟩:=Bq e;obtain ⟨x,vs,kx,rfl,h1,r1⟩:=Bo P ra e1;obtain ⟨y,ws,ky,rfl,h2,r2⟩:=Bo P rb e2;refine add_arrays P.F P.N (BV h1) (BV h2) (fun h' F' N'=>?_) (by
    rw [List.size_toArray,List.size_toArray,← r1.length,← r2.length];exact hz)
  exact k _ _ _ h' s.toks _ q (A2g P (r1.append r2) F' (by simpa using N') P.rep.lt) GK (HK P.rep.so.length)
theorem AR:Op2 G lv (binaryOp .Add) (fX AH):=
  GH (W0 fun ξ ξ ξ ξ ξ ξ c s ξ ξ ξ ξ ξ ξ ξ ξ P e q k=>by
    cases e;exact PyProof.Rows.add_int (k _ _ _ s.heap (s.toks+1) c q P.rep (.refl c) (.int _ _))) <|
  GH (A18 fun ξ ξ ξ ξ ξ ξ c s ξ ξ ξ ξ ξ ξ ξ ξ P e q k=>by
    obtain ⟨h,rfl⟩:=Bq e;exact PyProof.Rows.add_str (fun t' tk=>k _ _ _ s.heap tk c q P.rep (.refl c) (.str _ _)) h) A5e
theorem ZL (n:Nat)(vs:List Value):List.foldl (fun x1 x2=>x1++x2) #[] (List.replicate n vs.toArray)=(List.replicate n vs).flatten.toArray:=by
  have key:∀ (n:Nat) (acc:List Value),List.foldl (fun x1 x2=>x1++x2) acc.toArray (List.replicate n vs.toArray)=(acc++(List.replicate n vs).flatten).toArray:=by
    intro n
    induction n with
    | zero=>intro acc;simp
    | succ n ih =>
      intro acc;rw [List.replicate_succ,List.foldl_cons,List.append_toArray,ih,List.replicate_succ,List.flatten_cons,List.append_assoc]
  simpa using key n []
theorem B1.rep {α β:Type}{R:α→β→Prop}{l:List α}{vs:List β}(h:B1 R l vs):∀ n:Nat,B1 R (List.replicate n l).flatten (List.replicate n vs).flatten
  | 0=>.nil
  | n+1=>by
    rw [List.replicate_succ,List.replicate_succ,List.flatten_cons,List.flatten_cons];exact h.append (B1.rep h n)
theorem A5j:Op2 G lv (binaryOp .Mult) (fX fun a b σ=>(asI b).bind fun n=>(AU σ a).bind fun l=>if 0≤n∧n≤1000∧l.length≤1000∧l.isEmpty=false then some (.loc σ.length,σ ++ [.list (List.replicate n.toNat l).flatten]) else none):=by
  intro A h₀ L m fx σ c s a b va vb Q Qc E P ra rb ⟨r,e,q⟩ k;obtain ⟨n,h2,e⟩:=Az e;obtain ⟨u,rfl⟩:=rcI rb h2;obtain ⟨l,e1,e⟩:=Az e;obtain ⟨⟨h0,h1,h2,hne⟩,rfl⟩:=Bq e;obtain ⟨x,vs,kx,rfl,g1,r1⟩:=Bo P ra e1;have hv:vs.length=l.length:=r1.length.symm;have hsz:vs.toArray.size * n.toNat≤2 ^ 24:=by
    rw [List.size_toArray,hv];exact Nat.le_trans (Nat.mul_le_mul h2 (by omega:n.toNat≤1000)) (by decide)
  refine mul_list P.F P.N g1 (by omega) (by omega) hsz fun h' F' N'=>?_;have e:(if vs.toArray.isEmpty=true then 0 else n.toNat)=n.toNat:=by
    rw [if_neg];intro z;rw [List.isEmpty_toArray,List.isEmpty_iff] at z;rw [z] at hv;rw [List.isEmpty_eq_false_iff] at hne;exact hne (List.length_eq_zero_iff.mp hv.symm)
  rw [e,ZL] at N';exact k _ _ _ h' s.toks _ q (A2g P (r1.rep _) F' N' P.rep.lt) GK (HK P.rep.so.length)
theorem A5k:Pa G lv (binaryOp .Mult) asS asI fun x n σ=>if n=1 then some (.d (.str x),σ) else none:=by
  intro A h₀ L m fx σ c s a b va vb x n r Q Qc E P ra rb h1 h2 e q k;obtain ⟨t,rfl⟩:=rcS ra h1;obtain ⟨u,rfl⟩:=rcI rb h2;obtain ⟨rfl,rfl⟩:=Bq e;refine PySem.SB.mul (n:=1) ⟨by decide,fun ξ h=>by simp at h,fun ξ h=>by simp at h⟩ fun t' tk=>?_;rw [show Txt.mul x 1=x by unfold Txt.mul;simp]
  exact k _ _ _ s.heap tk c q P.rep (.refl c) (.str _ _)
theorem Ys:Op2 G lv (binaryOp .Mult) (fX Lz):=
  GH (W0 fun ξ ξ ξ ξ ξ ξ c s ξ ξ ξ ξ ξ ξ ξ ξ P e q k=>by
    obtain ⟨h,rfl⟩:=Bq e;exact PyProof.Rows.mul_int (k _ _ _ s.heap (s.toks+1) c q P.rep (.refl c) (.int _ _)) (by unfold IntMulOk;unfold Q8 at h;intro k;rw [k] at h;cases h)) <|
  GH A5k A5j
end
mutual
noncomputable def pyD:D→PyData
  | .none=>.none
  | .bool b=>.bool b
  | .int i=>.int i
  | .str x=>.str x
  | .tup l=>.tuple (pyDs l)
  | .lst l=>.list (pyDs l)
  | .bytes _=>.none
  | .obj _ _=>.none
  | .dict _=>.none
  | .val _=>.none
noncomputable def pyDs:List D→List PyData
  | []=>[]
  | d::ds=>pyD d::pyDs ds
end
noncomputable def okD:Nat→D→Bool
  | _,.none=>true
  | _,.int _=>true
  | _,.str x=>PyData.strOk x
  | n+1,.tup l=>l.all (okD n)
  | n+1,.lst l=>l.all (okD n)
  | _,_=>false
section
variable {P:Addr→Obj→Prop}{h:Heap}
theorem MU (g:∀ a o,P a o→h.get? a=some o){v:Value}{d:D}(n:Nat)(k:Dn P v d)(hk:okD n d=true):∃ as,Reads h v (pyD d) as:=
  k.rec (motive_1:=fun v d ξ=>∀ n,okD n d=true→∃ as,Reads h v (pyD d) as) (motive_2:=fun vs ds ξ=>∀ n,ds.all (okD n)=true→∃ as,ReadsAll h vs (pyDs ds) as) (motive_3:=fun ξ ξ ξ=>True) (motive_4:=fun ξ ξ ξ=>True)
    (fun ξ ξ=>⟨_,Reads.none⟩) (fun b ξ ξ=>⟨_,Reads.bool b⟩) (fun i t ξ ξ=>⟨_,Reads.int i t⟩) (fun x t ξ ξ=>⟨_,Reads.str x t⟩) (fun ξ ξ n e=>by cases n <;> cases e)
    (fun hm ξ ih n e=>by
      cases n with
      | zero=>cases e
      | succ n=>obtain ⟨as,q⟩:=ih n e;exact ⟨as,reads_tuple_at (g _ _ hm) rfl rfl q⟩)
    (fun hm ξ ih n e=>by
      cases n with
      | zero=>cases e
      | succ n=>obtain ⟨as,q⟩:=ih n e;exact ⟨_,reads_list_at (g _ _ hm) rfl rfl q⟩)
    (fun ξ ξ ξ ξ n e=>by cases n <;> cases e) (fun ξ ξ ξ ξ n e=>by cases n <;> cases e) (fun ξ n e=>by cases n <;> cases e)
    (fun ξ ξ=>⟨_,ReadsAll.nil⟩)
    (fun ξ ξ i1 i2 n e=>by
      obtain ⟨h1,h2⟩:=Bool.and_eq_true_iff.mp e;obtain ⟨as,q⟩:=i1 n h1;obtain ⟨bs,p⟩:=i2 n h2;exact ⟨_,ReadsAll.cons q p⟩)
    trivial (fun ξ ξ ξ ξ=>trivial) trivial (fun ξ ξ ξ ξ=>trivial) n hk
end
theorem Ub:∀ (n:Nat)(d:D),okD n d=true→(pyD d).canLay0=true∧(pyD d).depth≤n:=by
  have all:∀ (n:Nat),(∀ d,okD n d=true→(pyD d).canLay0=true∧(pyD d).depth≤n)→∀ ds:List D,(∀ d∈ds,okD n d=true)→PyData.canLayAll0 (pyDs ds)=true∧PyData.depthAll (pyDs ds)≤n:=by
    intro n ih ds
    induction ds with
    | nil=>intro _;simp [pyDs,PyData.canLayAll0,PyData.depthAll]
    | cons d ds hi =>
      intro h;have h1:=ih d (h d (.head _));have h2:=hi fun e he=>h e (.tail _ he);simp only [pyDs,PyData.canLayAll0,PyData.depthAll,h1.1,h2.1,Bool.and_self,true_and];have a1:=h1.2;have a2:=h2.2;omega
  intro n
  induction n with
  | zero =>
    intro d h;cases d <;> simp_all [okD,pyD,PyData.canLay0,PyData.depth]
  | succ n ih =>
    intro d h;cases d with
    | none=>simp [pyD,PyData.canLay0,PyData.depth]
    | int i=>simp [pyD,PyData.canLay0,PyData.depth]
    | str x=>simp [okD] at h;simp [pyD,PyData.canLay0,PyData.depth,h]
    | tup ds =>
      have q:=all n ih ds (by simpa [okD] using h);have q2:=q.2;simp only [pyD,PyData.canLay0,PyData.depth,q.1,true_and];omega
    | lst ds =>
      have q:=all n ih ds (by simpa [okD] using h);have q2:=q.2;simp only [pyD,PyData.canLay0,PyData.depth,q.1,true_and];omega
    | _=>simp [okD] at h
noncomputable def Ez:List AV→Option (List D)
  | []=>some []
  | .d x::r=>(Ez r).map (x::·)
  | .loc _::_=>none
theorem IM {l:List AV}{ds:List D}(e:Ez l=some ds):l=ds.map .d:=by
  induction l generalizing ds with
  | nil=>obtain rfl:=Option.some.inj e;rfl
  | cons a r ih=>cases a with
    | d x=>obtain ⟨l',e',rfl⟩:=Bx e;rw [ih e'];rfl
    | loc n=>exact Ck e
theorem C0 (ds:List D):Ez (ds.map .d)=some ds:=by
  induction ds with
  | nil=>rfl
  | cons x r ih=>simp only [List.map_cons,Ez,ih,Option.map_some]
theorem SX {x:D}(h:okD 8 x=true):SeqAt.shaped (pyD x)=true:=by
  have l:=Ub 8 x h;unfold SeqAt.shaped;rw [l.1,Bool.true_and];exact decide_eq_true (Nat.le_trans l.2 (by decide))
noncomputable def PM (σ:Sto):AV→Option D
  | .d x=>some x
  | .loc n=>(AU σ (.loc n)).bind fun l=>(Ez l).map .lst
noncomputable def eqD (x y:D):Bool:=PyData.eqv (pyD x) (pyD y)
noncomputable def xEq (neg:Bool)(a b:AV)(σ:Sto):Option (AV×Sto):=(PM σ a).bind fun x=>(PM σ b).bind fun y=>if (okD 8 x && okD 8 y)=true then some (.d (.bool (if neg=true then !(eqD x y) else eqD x y)),σ) else none
section
variable {G:Gl}{lv:Nat}{A:Around}{h₀:Heap}{L:Addr}{m:Str→Option Value}{fx:Led}{σ:Sto}{c:Cs}{s:Shared}
theorem OU (P:Pv G lv A h₀ L m fx σ c s){av:AV}{v:Value}{x:D}(h:Rc G.hT c av v)(e:PM σ av=some x):Dn (fun a o=>s.heap.get? a=some o) v x:=by
  cases av with
  | d y=>obtain rfl:y=x:=Option.some.inj e;exact Dn.mono (fun a o k=>P.good k) h
  | loc n =>
    obtain ⟨l,e1,e⟩:=Az e;obtain ⟨ds,e2,rfl⟩:=Bx e;rw [IM e2] at e1;obtain ⟨a,vs,k,rfl,h1,h2⟩:=Bo P h e1;exact .lst h1 (Dns.mono (fun a o k=>P.good k) (IC h2))
theorem eq_at (P:Pv G lv A h₀ L m fx σ c s){a b:AV}{va vb:Value}{neg:Bool}{r:AV×Sto}(ra:Rc G.hT c a va)(rb:Rc G.hT c b vb)(e:xEq neg a b σ = some r) :
    ∃ x y as bs,Reads s.heap va (pyD x) as∧Reads s.heap vb (pyD y) bs∧SeqAt.shaped (pyD x)=true∧SeqAt.shaped (pyD y)=true∧A.units+64 < cLine∧r=(.d (.bool (if neg=true then !(eqD x y) else eqD x y)),σ):=by
  obtain ⟨x,ea,e⟩:=Az e;obtain ⟨y,eb,e⟩:=Az e;obtain ⟨h,e⟩:=Bq e;obtain ⟨ox,oy⟩:=Bool.and_eq_true_iff.mp h;obtain ⟨as,r1⟩:=MU (fun ξ ξ k=>k) 8 (OU P ra ea) ox;obtain ⟨bs,r2⟩:=MU (fun ξ ξ k=>k) 8 (OU P rb eb) oy;exact ⟨x,y,as,bs,r1,r2,SX ox,SX oy,by have:=P.cx.un;omega,e.symm⟩
end
noncomputable def NA:List D→Option (List Int)
  | []=>some []
  | .int i::r=>(NA r).map (i::·)
  | _=>none
noncomputable def UM:List D→Option (List Str)
  | []=>some []
  | .str x::r=>(UM r).map (x::·)
  | _=>none
theorem Sz {ds:List D}{l:List Int}(e:NA ds=some l):ds=l.map .int:=by
  induction ds generalizing l with
  | nil=>obtain rfl:=Option.some.inj e;rfl
  | cons d r ih=>cases d with
    | int i=>obtain ⟨l',e',rfl⟩:=Bx e;rw [ih e'];rfl
    | _=>exact Ck e
theorem A0q {ds:List D}{l:List Str}(e:UM ds=some l):ds=l.map .str:=by
  induction ds generalizing l with
  | nil=>obtain rfl:=Option.some.inj e;rfl
  | cons d r ih=>cases d with
    | str i=>obtain ⟨l',e',rfl⟩:=Bx e;rw [ih e'];rfl
    | _=>exact Ck e
noncomputable def isNone:AV→Option Bool
  | .d .none=>some true
  | .d (.val _)=>none
  | .d _=>some false
  | .loc _=>some false
noncomputable def asN:AV→Option Unit
  | .d .none=>some ()
  | _=>none
noncomputable def asT:AV→Option (List D)
  | .d (.tup l)=>some l
  | _=>none
noncomputable def asM:AV→Option (List (Int×D))
  | .d (.dict l)=>some l
  | _=>none
theorem A4J {a:AV}(h:asN a=some ()):a=.d .none:=by
  cases a with
  | loc n=>cases h
  | d x=>cases x <;> cases h;rfl
theorem O7 {a:AV}{l:List D}(h:asT a=some l):a=.d (.tup l):=by
  cases a with
  | loc n=>cases h
  | d x=>cases x <;> cases h;rfl
theorem A00 {a:AV}{l:List (Int×D)}(h:asM a=some l):a=.d (.dict l):=by
  cases a with
  | loc n=>cases h
  | d x=>cases x <;> cases h;rfl
noncomputable abbrev okB (b:Bool) (σ:Sto):Option (AV×Sto):=some (.d (.bool b),σ)
noncomputable def AF:CmpOp→XF2
  | .Eq=>fun a b σ=>mB (asI a) (asI b) (fun i j=>okB (decide (i=j)) σ) <| mB (asS a) (asS b) (fun i j=>okB (decide (i=j)) σ) <| xEq false a b σ
  | .NotEq=>fun a b σ=>mB (asI a) (asI b) (fun i j=>okB (!decide (i=j)) σ) <| mB (asS a) (asS b) (fun i j=>okB (!decide (i=j)) σ) <| xEq true a b σ
  | .Lt=>fun a b σ=>mB (asI a) (asI b) (fun i j=>okB (decide (i < j)) σ) none
  | .LtE=>fun a b σ=>mB (asI a) (asI b) (fun i j=>okB (decide (i≤j)) σ) none
  | .Gt=>fun a b σ=>mB (asI a) (asI b) (fun i j=>okB (decide (j < i)) σ) none
  | .GtE=>fun a b σ=>mB (asI a) (asI b) (fun i j=>okB (decide (j≤i)) σ) none
  | .Is=>fun a b σ=>(asN b).bind fun ξ=>(isNone a).map fun b=>(.d (.bool b),σ)
  | .IsNot=>fun a b σ=>(asN b).bind fun ξ=>(isNone a).map fun b=>(.d (.bool (!b)),σ)
  | .In=>fun a b σ=>mB (asI a) (asM b) (fun i tb=>okB (tb.lookup i).isSome σ) <| mB (asI a) (asT b) (fun i ds=>(NA ds).map fun l=>(.d (.bool (l.contains i)),σ)) <|
      mB (asS a) (asT b) (fun x ds=>(UM ds).bind fun l=>if (x.cps.all (· < 0x110000) && l.all PyData.strOk)=true then okB (l.contains x) σ else none) none
  | .NotIn=>fun a b σ=>mB (asI a) (asT b) (fun i ds=>(NA ds).map fun l=>(.d (.bool (!l.contains i)),σ)) none
noncomputable abbrev B7 (op:CmpOp):F2:=fX (AF op)
section
variable {P:Addr→Obj→Prop}
theorem ME:∀ {es:List DictEntry}{tb:List (Int×D)}(k:Int),DnI P es tb→∃ r,findBy Value.isInt es.toArray k=r∧match tb.lookup k,r with
    | some d,some v=>Dn P v d
    | none,none=>True
    | _,_=>False
  | _,_,k,.nil=>⟨none,rfl,trivial⟩
  | _,_,k,.cons (k:=k') (t:=t) (v:=v) (es:=es) (tb:=tb) h r=>by
    obtain ⟨r',e,hr⟩:=ME k r;unfold findBy at e ⊢;simp only [List.find?_toArray,List.find?_cons] at e ⊢
    by_cases hk:k=k'
    · subst hk
      refine ⟨some v,by simp [Value.isInt],?_⟩;simp only [List.lookup_cons,beq_self_eq_true];exact h
    · have h1:(Value.isInt k (Value.int k' t))=false:=by simp [Value.isInt];exact fun e=>hk e.symm
      have h2:(k == k')=false:=beq_eq_false_iff_ne.mpr hk;refine ⟨r',by rw [h1];exact e,?_⟩;simp only [List.lookup_cons,h2];exact hr
theorem VF {prog:Program}{w:World}:∀ {es:List DictEntry} {tb:List (Int×D)},DnI P es tb→∀ e∈es,∃ k,(intKind prog w).is k e.key=true∧e.hash=(intKind prog w).hash k
  | _,_,.nil,e,he=>nomatch he
  | _,_,.cons (k:=k) (t:=t) _ r,e,he=>by
    rcases List.mem_cons.mp he with rfl | he
    · exact ⟨k,intKind_is prog w k t,rfl⟩
    · exact VF r e he
theorem PV {prog:Program}{w:World}{h:Heap}{a:Addr}{es:List DictEntry}{n:Nat}{tb:List (Int×D)}(g:h.get? a=some (dictOf es n))(r:DnI P es tb):h.MapOf (intKind prog w) a (fun k=>findBy Value.isInt es.toArray k):=
  ⟨_,es.toArray,n,g,⟨rfl,rfl,rfl⟩,rfl,fun e he=>VF r e (Array.mem_toList_iff.mpr he),fun ξ=>rfl⟩
end
theorem QB {hT:Heap}{c:Cs}{a:AV}{v:Value}{b:Bool}(h:Rc hT c a v)(e:isNone a=some b):plainIs v .none=true∧(v == Value.none)=b:=by
  have go:∀ {b':Bool},plainIs v .none=true∧(v == Value.none)=b'→some b'=some b→plainIs v .none=true∧(v == Value.none)=b:=fun p e=>Option.some.inj e ▸ p;cases a with
  | loc n=>obtain ⟨x,_,rfl⟩:=h;exact go ⟨rfl,rfl⟩ e
  | d x =>
    have h:Dn _ v x:=h;cases h <;> first | exact go ⟨rfl,rfl⟩ e | exact Ck e
section
variable {G:Gl}{lv:Nat}
theorem Xy {A:Around}{h₀:Heap}{L:Addr}{m:Str→Option Value}{fx:Led}{σ:Sto}{c:Cs}{s:Shared}{ds:List D}{va vb:Value}{x:D}(Pp:Pv G lv A h₀ L m fx σ c s)(ra:Rc G.hT c (.d x) va)(rb:Rc G.hT c (.d (.tup ds)) vb)(ox:okD 7 x=true)(ods:∀ d∈ds,okD 7 d=true) :
    ∃ as bs,Reads s.heap vb (.tuple (pyDs ds)) as∧Reads s.heap va (pyD x) bs∧PyData.canLayAll0 (pyDs ds)=true∧(pyD x).canLay0=true∧A.units+1+min (PyData.depthAll (pyDs ds)) (pyD x).depth < cLine:=by
  have hb:=OU Pp rb rfl;have ha:=OU Pp ra rfl;obtain ⟨as,r1⟩:=MU (fun ξ ξ k=>k) 8 hb (by simpa [okD] using ods);obtain ⟨bs,r2⟩:=MU (fun ξ ξ k=>k) 7 ha ox;rw [pyD] at r1;have l2:=Ub 7 x ox;have l1:=Ub 8 (.tup ds) (by simpa [okD] using ods);rw [pyD] at l1;simp only [PyData.canLay0] at l1;refine ⟨as,bs,r1,r2,l1.1,l2.1,?_⟩;have:=Pp.cx.un;have h3:=l2.2;have h4:=Nat.min_le_right (PyData.depthAll (pyDs ds)) (pyD x).depth;omega
theorem Yy (l:List Int)(i:Int):((pyDs (l.map .int)).any fun y=>PyData.eqv y (pyD (.int i)))=l.contains i:=by
  induction l with
  | nil=>rfl
  | cons a r ih =>
    simp only [List.map_cons,pyDs,List.any_cons,pyD,PyData.eqv,List.contains_cons];rw [show (fun y=>PyData.eqv y (PyData.int i))=fun y=>PyData.eqv y (pyD (.int i)) from rfl,ih]
    congr 1
    exact BEq.comm
theorem A3w (l:List Str)(i:Str):((pyDs (l.map .str)).any fun y=>PyData.eqv y (pyD (.str i)))=l.contains i:=by
  induction l with
  | nil=>rfl
  | cons a r ih =>
    simp only [List.map_cons,pyDs,List.any_cons,pyD,PyData.eqv,List.contains_cons];rw [show (fun y=>PyData.eqv y (PyData.str i))=fun y=>PyData.eqv y (pyD (.str i)) from rfl,ih]
    congr 1
    exact BEq.comm
theorem A4D {neg:Bool}(op:CmpOp)(hop:op=if neg=true then .NotEq else .Eq):Op2 G lv (compareOp op) (fX (xEq neg)):=by
  intro A h₀ L m fx σ c s a b va vb Q Qc E P ra rb ⟨r,e,q⟩ k;obtain ⟨x,y,as,bs,r1,r2,s1,s2,hu,rfl⟩:=eq_at P ra rb e;cases neg with
  | false=>cases hop;exact eq_dataH r1 r2 s1 s2 hu (k _ _ _ s.heap s.toks c q P.rep (.refl c) (.bool _))
  | true=>cases hop;exact ne_dataH r1 r2 s1 s2 hu (k _ _ _ s.heap s.toks c q P.rep (.refl c) (.bool _))
theorem O_is:Op2 G lv (compareOp .Is) (fX fun a b σ=>(asN b).bind fun ξ=>(isNone a).map fun b=>(.d (.bool b),σ)):=by
  intro A h₀ L m fx σ c s a b va vb Q Qc E P ra rb ⟨r,e,q⟩ k;obtain ⟨_,h1,e⟩:=Az e;obtain ⟨bb,e0,rfl⟩:=Bx e;obtain rfl:=KU (A4J h1 ▸ rb);obtain ⟨h1,h2⟩:=QB ra e0;exact wpAny_is_plain h1 (by rw [h2];exact k _ _ _ s.heap s.toks c q P.rep (.refl c) (.bool _))
theorem A24:Op2 G lv (compareOp .IsNot) (fX fun a b σ=>(asN b).bind fun ξ=>(isNone a).map fun b=>(.d (.bool (!b)),σ)):=by
  intro A h₀ L m fx σ c s a b va vb Q Qc E P ra rb ⟨r,e,q⟩ k;obtain ⟨_,h1,e⟩:=Az e;obtain ⟨bb,e0,rfl⟩:=Bx e;obtain rfl:=KU (A4J h1 ▸ rb);obtain ⟨h1,h2⟩:=QB ra e0;exact wpAny_isNot_plain h1 (by rw [h2];exact k _ _ _ s.heap s.toks c q P.rep (.refl c) (.bool _))
theorem O_inM:Pa G lv (compareOp .In) asI asM fun i tb σ=>okB (tb.lookup i).isSome σ:=by
  intro A h₀ L m fx σ c s a b va vb i tb r Q Qc E P ra rb h1 h2 e q k;obtain ⟨t,rfl⟩:=rcI ra h1;obtain ⟨x,es,n,rfl,hs,g1,g2⟩:=P7 (A00 h2 ▸ rb);cases e;obtain ⟨r,er,hr⟩:=ME i g2;refine wpAny_in_of (intKind_is G.prog G.w i t) hs (PV (P.good g1) g2) ?_;have e:(findBy Value.isInt es.toArray i).isSome=(tb.lookup i).isSome:=by
    rw [er];revert hr;cases tb.lookup i <;> cases r <;> first | exact fun ξ=>rfl | exact fun h=>h.elim
  show Qc (.bool (findBy Value.isInt es.toArray i).isSome) _;rw [e];exact k _ _ _ s.heap (s.toks+1) c q P.rep (.refl c) (.bool _)
theorem O_inT:Pa G lv (compareOp .In) asI asT fun i ds σ=>(NA ds).map fun l=>(.d (.bool (l.contains i)),σ):=by
  intro A h₀ L m fx σ c s a b va vb i ds r Q Qc E P ra rb h1 h2 e q k;obtain ⟨l,e0,rfl⟩:=Bx e;have e':=Sz e0;subst e';obtain ⟨as,bs,r1,r2,s1,s2,hu⟩:=Xy P (x:=.int i) (ds:=l.map .int) (Mq h1 ▸ ra) (O7 h2 ▸ rb) rfl (fun d hd=>by obtain ⟨y,_,rfl⟩:=List.mem_map.mp hd;rfl);exact SeqAt.in_tuple_reads r1 r2 s1 s2 hu (by rw [Yy];exact k _ _ _ s.heap s.toks c q P.rep (.refl c) (.bool _))
theorem O_inS:Pa G lv (compareOp .In) asS asT fun x ds σ=>(UM ds).bind fun l=>if (x.cps.all (· < 0x110000) && l.all PyData.strOk)=true then okB (l.contains x) σ else none:=by
  intro A h₀ L m fx σ c s a b va vb x ds r Q Qc E P ra rb h1 h2 e q k;obtain ⟨l,e0,e⟩:=Az e;obtain ⟨h,rfl⟩:=Bq e;have e':=A0q e0;subst e';obtain ⟨hx,hl⟩:=Bool.and_eq_true_iff.mp h;obtain ⟨as,bs,r1,r2,s1,s2,hu⟩:=Xy P (x:=.str x) (ds:=l.map .str) (Mr h1 ▸ ra) (O7 h2 ▸ rb) hx (fun d hd=>by
    obtain ⟨y,hy,rfl⟩:=List.mem_map.mp hd;exact List.all_eq_true.mp hl y hy)
  exact SeqAt.in_tuple_reads r1 r2 s1 s2 hu (by rw [A3w];exact k _ _ _ s.heap s.toks c q P.rep (.refl c) (.bool _))
theorem A0L:Pa G lv (compareOp .NotIn) asI asT fun i ds σ=>(NA ds).map fun l=>(.d (.bool (!l.contains i)),σ):=by
  intro A h₀ L m fx σ c s a b va vb i ds r Q Qc E P ra rb h1 h2 e q k;obtain ⟨l,e0,rfl⟩:=Bx e;have e':=Sz e0;subst e';obtain ⟨as,bs,r1,r2,s1,s2,hu⟩:=Xy P (x:=.int i) (ds:=l.map .int) (Mq h1 ▸ ra) (O7 h2 ▸ rb) rfl (fun d hd=>by obtain ⟨y,_,rfl⟩:=List.mem_map.mp hd;rfl);exact SeqAt.notIn_tuple_reads r1 r2 s1 s2 hu (by rw [Yy];exact k _ _ _ s.heap s.toks c q P.rep (.refl c) (.bool _))
theorem Si:∀ op:CmpOp,Op2 G lv (compareOp op) (B7 op)
  | .Lt=>Km fun ξ ξ ξ ξ ξ ξ c s ξ ξ ξ ξ ξ ξ ξ ξ P e q k=>by cases e;exact PyProof.Rows.lt_int (k _ _ _ s.heap s.toks c q P.rep (.refl c) (.bool _))
  | .LtE=>Km fun ξ ξ ξ ξ ξ ξ c s ξ ξ ξ ξ ξ ξ ξ ξ P e q k=>by cases e;exact PyProof.Rows.le_int (k _ _ _ s.heap s.toks c q P.rep (.refl c) (.bool _))
  | .Gt=>Km fun ξ ξ ξ ξ ξ ξ c s ξ ξ ξ ξ ξ ξ ξ ξ P e q k=>by cases e;exact PyProof.Rows.gt_int (k _ _ _ s.heap s.toks c q P.rep (.refl c) (.bool _))
  | .GtE=>Km fun ξ ξ ξ ξ ξ ξ c s ξ ξ ξ ξ ξ ξ ξ ξ P e q k=>by cases e;exact PyProof.Rows.ge_int (k _ _ _ s.heap s.toks c q P.rep (.refl c) (.bool _))
  | .Eq=>GH (W0 fun ξ ξ ξ ξ ξ ξ c s ξ ξ ξ ξ ξ ξ ξ ξ P e q k=>by cases e;exact PyProof.Rows.eq_int (k _ _ _ s.heap s.toks c q P.rep (.refl c) (.bool _)))
      (GH (A18 fun ξ ξ ξ ξ ξ ξ c s ξ ξ ξ ξ ξ ξ ξ ξ P e q k=>by cases e;exact PyProof.Rows.eq_str (k _ _ _ s.heap s.toks c q P.rep (.refl c) (.bool _))) (A4D _ rfl))
  | .NotEq=>GH (W0 fun ξ ξ ξ ξ ξ ξ c s ξ ξ ξ ξ ξ ξ ξ ξ P e q k=>by cases e;exact PyProof.Rows.ne_int (k _ _ _ s.heap s.toks c q P.rep (.refl c) (.bool _)))
      (GH (A18 fun ξ ξ ξ ξ ξ ξ c s ξ ξ ξ ξ ξ ξ ξ ξ P e q k=>by cases e;exact PyProof.Rows.ne_str (k _ _ _ s.heap s.toks c q P.rep (.refl c) (.bool _))) (A4D _ rfl))
  | .Is=>O_is
  | .IsNot=>A24
  | .In=>GH O_inM (GH O_inT (GH O_inS Us))
  | .NotIn=>GH A0L Us
end
noncomputable def tTr (ta:TE):TT:=fun ρ σ Q=>ta ρ σ fun v σ'=>match v with
  | .d (.bool b)=>Q b σ'
  | _=>False
noncomputable def QK (ta tb:TT):TT:=fun ρ σ Q=>ta ρ σ fun b σ'=>match b with
  | true=>tb ρ σ' Q
  | false=>Q false σ'
noncomputable def IV (ta tb:TT):TT:=fun ρ σ Q=>ta ρ σ fun b σ'=>match b with
  | true=>Q true σ'
  | false=>tb ρ σ' Q
noncomputable def Eh:TT:=fun ξ σ Q=>Q true σ
noncomputable def Ia:TT:=fun ξ σ Q=>Q false σ
noncomputable def tCh (f g:F2)(ta tb tc:TE):TE:=fun ρ σ Q=>ta ρ σ fun a σ₁=>tb ρ σ₁ fun b σ₂=>f a b σ₂ fun v σ₃=>match v with
  | .d (.bool true)=>tc ρ σ₃ fun c σ₄=>g b c σ₄ Q
  | .d (.bool false)=>Q (.d (.bool false)) σ₃
  | _=>False
noncomputable def tIf {γ:Type}(tt:TT)(ta tb:Lo→Sto→γ→Prop):Lo→Sto→γ→Prop:=fun ρ σ Q=>tt ρ σ fun b σ'=>match b with
  | true=>ta ρ σ' Q
  | false=>tb ρ σ' Q
noncomputable def tNo {γ:Type}:Lo→Sto→γ→Prop:=fun ξ ξ ξ=>False
noncomputable def SY (ta tb:TE):TE:=fun ρ σ Q=>ta ρ σ fun v σ'=>match v with
  | .d (.bool true)=>tb ρ σ' Q
  | .d (.bool false)=>Q (.d (.bool false)) σ'
  | _=>False
section
variable {G:Gl}{lv:Nat}{env:Env}{vars:List Str}
theorem S_tr {e:Expr}{ta:TE}(ha:Au G lv env vars e ta)(he:isTrue e env (eval e env)=(do
    let v ← eval e env
    standAt e.pos
    holding [v] (truthy v)):=by rfl):Dg G lv env vars e (tTr ta):=by
  intro A h₀ L m fx ρ σ c s Q Qc E P q k;refine wpAny_isTrue_value (ha A h₀ L m fx ρ σ c s _ _ E P q fun a σ₁ va h₁ tk₁ c₁ q₁ r₁ l₁ x₁=>?_) he
  try dsimp only at q₁
  split at q₁
  · obtain rfl:=Ff x₁
    exact wpAny_truthy_bool (k _ _ _ h₁ tk₁ c₁ q₁ r₁ l₁ rfl)
  · exact q₁.elim
set_option tactic.hygienic true in
theorem A5C {l r:Expr}{op:CmpOp}{pos:Pos}{ta tb:TE}(hl:Au G lv env vars l ta)(hr:Au G lv env vars r tb)(hm:behindInMarks op r=false) :
    Dg G lv env vars (.Compare l [op] [r] pos) (tTr (Aq (B7 op) ta tb)):=by
  intro A h₀ L m fx ρ σ c s Q Qc E P q k;refine wpAny_isTrue_Compare1 (hl A h₀ L m fx ρ σ c s _ _ E P q fun a σ₁ va h₁ tk₁ c₁ q₁ r₁ l₁ x₁=>?_) hm;refine hr A h₀ L m fx ρ σ₁ c₁ _ _ _ E (P.next r₁ l₁) q₁ fun b σ₂ vb h₂ tk₂ c₂ q₂ r₂ l₂ x₂=>?_;refine Si op A h₀ L m fx σ₂ c₂ _ a b va vb _ _ E ⟨P.cx,r₂⟩ (Rc.mono l₂ _ _ x₁) x₂ q₂ fun v σ₃ vv h₃ tk₃ c₃ q₃ r₃ l₃ x₃=>?_
  try dsimp only at q₃
  split at q₃
  · obtain rfl:=Ff x₃
    exact wpAny_truthy_bool (k _ _ _ h₃ tk₃ c₃ q₃ r₃ (l₁.trans (l₂.trans l₃)) rfl)
  · exact q₃.elim
set_option tactic.hygienic true in
theorem A5B {l r:Expr}{op:CmpOp}{pos:Pos}{ta tb:TE}(hl:Au G lv env vars l ta)(hr:Au G lv env vars r tb)(hm:behindInMarks op r=false) :
    Au G lv env vars (.Compare l [op] [r] pos) (Aq (B7 op) ta tb):=by
  intro A h₀ L m fx ρ σ c s Q Qc E P q k;refine wpAny_Compare1 (hl A h₀ L m fx ρ σ c s _ _ E P q fun a σ₁ va h₁ tk₁ c₁ q₁ r₁ l₁ x₁=>?_) hm;refine hr A h₀ L m fx ρ σ₁ c₁ _ _ _ E (P.next r₁ l₁) q₁ fun b σ₂ vb h₂ tk₂ c₂ q₂ r₂ l₂ x₂=>?_;exact Si op A h₀ L m fx σ₂ c₂ _ a b va vb _ _ E ⟨P.cx,r₂⟩ (Rc.mono l₂ _ _ x₁) x₂ q₂ (Kn.after (Kn.after k l₁) l₂)
set_option tactic.hygienic true in
theorem A3k {l r r':Expr}{op op':CmpOp}{pos:Pos}{ta tb tc:TE}(hl:Au G lv env vars l ta)(hr:Au G lv env vars r tb)(hr':Au G lv env vars r' tc)(hm:lastMarks [op,op'] [r,r']=false) :
    Dg G lv env vars (.Compare l [op,op'] [r,r'] pos) (tTr (tCh (B7 op) (B7 op') ta tb tc)):=by
  intro A h₀ L m fx ρ σ c s Q Qc E P q k;refine isTrue_chain (hl A h₀ L m fx ρ σ c s _ _ E P q fun a σ₁ va h₁ tk₁ c₁ q₁ r₁ l₁ x₁=>?_) hm;refine test_link (hr A h₀ L m fx ρ σ₁ c₁ _ _ _ E (P.next r₁ l₁) q₁ fun b σ₂ vb h₂ tk₂ c₂ q₂ r₂ l₂ x₂=>?_);refine Si op A h₀ L m fx σ₂ c₂ _ a b va vb _ _ E ⟨P.cx,r₂⟩ (Rc.mono l₂ _ _ x₁) x₂ q₂ fun v σ₃ vv h₃ tk₃ c₃ q₃ r₃ l₃ x₃=>?_
  try dsimp only at q₃
  split at q₃
  · obtain rfl:=Ff x₃
    refine wpAny_truthy_bool ?_;simp only [if_true];refine test_last (hr' A h₀ L m fx ρ σ₃ c₃ _ _ _ E (P.next (tk:=tk₃) r₃ (l₁.trans (l₂.trans l₃))) q₃ fun d σ₄ vd h₄ tk₄ c₄ q₄ r₄ l₄ x₄=>?_);refine Si op' A h₀ L m fx σ₄ c₄ _ b d vb vd _ _ E ⟨P.cx,r₄⟩ (Rc.mono (l₃.trans l₄) _ _ x₂) x₄ q₄ fun v σ₅ vv h₅ tk₅ c₅ q₅ r₅ l₅ x₅=>?_
    try dsimp only at q₅
    split at q₅
    · obtain rfl:=Ff x₅
      exact wpAny_truthy_bool (k _ _ _ h₅ tk₅ c₅ q₅ r₅ (l₁.trans (l₂.trans (l₃.trans (l₄.trans l₅)))) rfl)
    · exact q₅.elim
  · obtain rfl:=Ff x₃
    refine wpAny_truthy_bool ?_;exact k _ _ _ h₃ tk₃ c₃ q₃ r₃ (l₁.trans (l₂.trans l₃)) rfl
  · exact q₃.elim
noncomputable abbrev F5 (G:Gl) (lv:Nat) (env:Env) (vars:List Str) (op:BoolOp) (es:List Expr) (t:TT):Prop:=FZ G lv env vars (allTrue op es env) Bool Rb t
theorem A0O:F5 G lv env vars .And [] Eh:=
  fun ξ ξ ξ ξ ξ ξ ξ c s ξ ξ ξ P q k=>wpAny_allTrue_And_nil (k _ _ _ s.heap s.toks c q P.rep (.refl c) rfl)
theorem A3o:F5 G lv env vars .Or [] Ia:=
  fun ξ ξ ξ ξ ξ ξ ξ c s ξ ξ ξ P q k=>by
    show wpAny _ _ (pure (BoolOp.Or == BoolOp.And)) _ _ _;exact wpAny_pure (k _ _ _ s.heap s.toks c q P.rep (.refl c) rfl)
set_option tactic.hygienic true in
theorem Zf {e:Expr}{es:List Expr}{ta tb:TT}(ha:Dg G lv env vars e ta)(hb:F5 G lv env vars .And es tb):F5 G lv env vars .And (e::es) (QK ta tb):=by
  intro A h₀ L m fx ρ σ c s Q Qc E P q k;refine wpAny_allTrue_And_cons (ha A h₀ L m fx ρ σ c s _ _ E P q fun b σ₁ v h₁ tk₁ c₁ q₁ r₁ l₁ x₁=>?_);have x₁:v=b:=x₁;subst x₁;cases v with
  | true=>exact hb A h₀ L m fx ρ σ₁ c₁ _ _ _ E (P.next r₁ l₁) q₁ (Kn.after k l₁)
  | false=>exact k _ _ _ h₁ tk₁ c₁ q₁ r₁ l₁ rfl
set_option tactic.hygienic true in
theorem A0Q {e:Expr}{es:List Expr}{ta tb:TT}(ha:Dg G lv env vars e ta)(hb:F5 G lv env vars .Or es tb):F5 G lv env vars .Or (e::es) (IV ta tb):=by
  intro A h₀ L m fx ρ σ c s Q Qc E P q k;refine wpAny_allTrue_Or_cons (ha A h₀ L m fx ρ σ c s _ _ E P q fun b σ₁ v h₁ tk₁ c₁ q₁ r₁ l₁ x₁=>?_);have x₁:v=b:=x₁;subst x₁;cases v with
  | true=>exact k _ _ _ h₁ tk₁ c₁ q₁ r₁ l₁ rfl
  | false=>exact hb A h₀ L m fx ρ σ₁ c₁ _ _ _ E (P.next r₁ l₁) q₁ (Kn.after k l₁)
theorem A3j {op:BoolOp}{es:List Expr}{pos:Pos}{t:TT}(h:F5 G lv env vars op es t):Dg G lv env vars (.BoolOp op es pos) t:=
  fun A h₀ L m fx ρ σ c s Q Qc E P q k=>wpAny_isTrue_BoolOp (h A h₀ L m fx ρ σ c s Q Qc E P q k)
noncomputable abbrev JF (G:Gl) (lv:Nat) (env:Env) (vars:List Str) (pos:Pos) (es:List Expr) (t:TE):Prop:=FZ G lv env vars (boolOp pos .And (evalEach es env)) AV Rc t
theorem WU {e:Expr}{pos:Pos}{t:TE}(h:Au G lv env vars e t):JF G lv env vars pos [e] t:=fun A h₀ L m fx ρ σ c s Q Qc E P q k=>h A h₀ L m fx ρ σ c s Q Qc E P q k
set_option tactic.hygienic true in
theorem WT {e e':Expr}{es:List Expr}{pos:Pos}{ta tb:TE}(ha:Au G lv env vars e ta)(hb:JF G lv env vars pos (e'::es) tb):JF G lv env vars pos (e::e'::es) (SY ta tb):=by
  intro A h₀ L m fx ρ σ c s Q Qc E P q k;show wpAny _ _ (do
    let v ← eval e env
    standAt pos
    let t ← holding [v] (truthy v)
    match BoolOp.And,t with
    | .And,false | .Or,true=>pure v
    | _,_=>boolOp pos .And (evalEach (e'::es) env)) _ _ _
  refine wpAny_bind (ha A h₀ L m fx ρ σ c s _ _ E P q fun a σ₁ va h₁ tk₁ c₁ q₁ r₁ l₁ x₁=>wpAny_bind (wpAny_standAt (wpAny_bind (wpAny_holding ?_))));split at q₁
  · obtain rfl:=Ff x₁
    exact wpAny_truthy_bool (hb A h₀ L m fx ρ σ₁ c₁ _ _ _ E (P.next r₁ l₁) q₁ (Kn.after k l₁))
  · obtain rfl:=Ff x₁
    exact wpAny_truthy_bool (wpAny_pure (k _ _ _ h₁ tk₁ c₁ q₁ r₁ l₁ x₁))
  · exact q₁.elim
theorem A3h {es:List Expr}{pos:Pos}{t:TE}(h:JF G lv env vars pos es t):Au G lv env vars (.BoolOp .And es pos) t:=h
theorem S_no {e:Expr}:Au G lv env vars e tNo:=fun ξ ξ ξ ξ ξ ξ ξ ξ ξ ξ ξ ξ ξ q ξ=>False.elim q
theorem S_noT {e:Expr}:Dg G lv env vars e tNo:=fun ξ ξ ξ ξ ξ ξ ξ ξ ξ ξ ξ ξ ξ q ξ=>False.elim q
set_option tactic.hygienic true in
theorem A3f {t b o:Expr}{pos:Pos}{tt:TT}{ta tb:TE}(ht:Dg G lv env vars t tt)(ha:Au G lv env vars b ta)(hb:Au G lv env vars o tb):Au G lv env vars (.IfExp t b o pos) (tIf tt ta tb):=by
  intro A h₀ L m fx ρ σ c s Q Qc E P q k;refine wpAny_IfExp (ht A h₀ L m fx ρ σ c s _ _ E P q fun bb σ₁ v h₁ tk₁ c₁ q₁ r₁ l₁ x₁=>?_);have x₁:v=bb:=x₁;subst x₁;cases v with
  | true=>exact ha A h₀ L m fx ρ σ₁ c₁ _ _ _ E (P.next r₁ l₁) q₁ (Kn.after k l₁)
  | false=>exact hb A h₀ L m fx ρ σ₁ c₁ _ _ _ E (P.next r₁ l₁) q₁ (Kn.after k l₁)
noncomputable def Ap:TEs:=fun ξ σ Q=>Q [] σ
noncomputable def Ac (ta:TE)(ts:TEs):TEs:=fun ρ σ Q=>ta ρ σ fun a σ'=>ts ρ σ' fun l σ''=>Q (a::l) σ''
theorem Yu:Bw G lv env vars [] Ap:=fun ξ ξ ξ ξ ξ ξ ξ ξ c s ξ ξ ξ P q k=>spliced_nil (k _ _ _ s.heap s.toks c q P.rep (.refl c) .nil)
set_option tactic.hygienic true in
theorem WV {e:Expr}{es:List Expr}{ta:TE}{ts:TEs}(ha:Au G lv env vars e ta)(hs:Bw G lv env vars es ts)(hst:starEach (e::es) env=(false,eval e env)::starEach es env):Bw G lv env vars (e::es) (Ac ta ts):=by
  intro pos A h₀ L m fx ρ σ c s Q Qc E P q k;rw [hst];refine spliced_cons (ha A h₀ L m fx ρ σ c s _ _ E P q fun a σ₁ va h₁ tk₁ c₁ q₁ r₁ l₁ x₁=>?_);exact hs pos A h₀ L m fx ρ σ₁ c₁ _ _ _ E (P.next r₁ l₁) q₁ fun l σ₂ vs h₂ tk₂ c₂ q₂ r₂ l₂ x₂=>k _ _ _ h₂ tk₂ c₂ q₂ r₂ (l₁.trans l₂) (.cons (Rc.mono l₂ _ _ x₁) x₂)
noncomputable def Bp (ts:TEs):TE:=fun ρ σ Q=>ts ρ σ fun l σ'=>match Ez l with
  | some ds=>ds.length≤sizeLine∧Q (.d (.tup ds)) σ'
  | none=>False
noncomputable def Dw (ts:TEs):TE:=fun ρ σ Q=>ts ρ σ fun l σ'=>l.length≤sizeLine∧Q (.loc σ'.length) (σ'++[.list l])
noncomputable def Bk (ts:TEs):TE:=fun ρ σ Q=>ts ρ σ fun l σ'=>match Ez l with
  | some ds=>ds.length≤sizeLine∧Q (.d (.lst ds)) σ'
  | none=>False
set_option tactic.hygienic true in
theorem S_Tup {es:List Expr}{k:Nat}{pos:Pos}{ts:TEs}(hs:Bw G lv env vars es ts):Au G lv env vars (.Tuple es k pos) (Bp ts):=by
  intro A h₀ L m fx ρ σ c s Q Qc E P q k;refine Tuple_ (hs pos A h₀ L m fx ρ σ c s _ _ E P q fun l σ₁ vs h₁ tk₁ c₁ q₁ r₁ l₁ x₁=>?_);split at q₁
  · rename_i ds e
    obtain rfl:=IM e;have Pv1:Pv G lv A h₀ L m fx σ₁ c₁ {s with heap:=h₁,toks:=tk₁}:=⟨P.cx,r₁⟩
    refine newTuple_N Pv1.F Pv1.N (fun h' F' N'=>?_) (by rw [← x₁.length,List.length_map];exact q₁.1);obtain ⟨r,x⟩:=newT Pv1 F' (IC x₁) N' r₁.lt;exact k _ _ _ h' tk₁ _ q₁.2 r (l₁.trans HB) x
  · exact q₁.elim
theorem A5u {es:List Expr}{pos:Pos}{ts:TEs}(hs:Bw G lv env vars es ts):Au G lv env vars (.List es pos) (Dw ts):=by
  intro A h₀ L m fx ρ σ c s Q Qc E P q k;refine List_ (hs pos A h₀ L m fx ρ σ c s _ _ E P q fun l σ₁ vs h₁ tk₁ c₁ q₁ r₁ l₁ x₁=>?_);have Pv1:Pv G lv A h₀ L m fx σ₁ c₁ {s with heap:=h₁,toks:=tk₁}:=⟨P.cx,r₁⟩
  refine newList_N Pv1.F Pv1.N (fun h' F' N'=>?_) (by rw [← x₁.length];exact q₁.1);exact k _ _ _ h' tk₁ _ q₁.2 (A2g Pv1 x₁ F' N' r₁.lt) (l₁.trans GK) (HK r₁.so.length)
set_option tactic.hygienic true in
theorem A3g {es:List Expr}{pos:Pos}{ts:TEs}(hs:Bw G lv env vars es ts):Au G lv env vars (.List es pos) (Bk ts):=by
  intro A h₀ L m fx ρ σ c s Q Qc E P q k;refine List_ (hs pos A h₀ L m fx ρ σ c s _ _ E P q fun l σ₁ vs h₁ tk₁ c₁ q₁ r₁ l₁ x₁=>?_);split at q₁
  · rename_i ds e
    obtain rfl:=IM e;have Pv1:Pv G lv A h₀ L m fx σ₁ c₁ {s with heap:=h₁,toks:=tk₁}:=⟨P.cx,r₁⟩
    refine newList_N Pv1.F Pv1.N (fun h' F' N'=>?_) (by rw [← x₁.length,List.length_map];exact q₁.1);obtain ⟨r,x⟩:=newF Pv1 F' (IC x₁) N' r₁.lt;exact k _ _ _ h' tk₁ _ q₁.2 r (l₁.trans HB) x
  · exact q₁.elim
end
noncomputable def A4l (i:Int):Prop:=-(2 ^ 63)≤i∧i < 2 ^ 63
noncomputable def Dv (i:Int):Bool:=decide (-(2 ^ 63)≤i) && decide (i < 2 ^ 63)
theorem Mc {i:Int}(h:Dv i=true):A4l i:=by
  have h:=Bool.and_eq_true_iff.mp h;exact ⟨of_decide_eq_true h.1,of_decide_eq_true h.2⟩
noncomputable def AE:XF2:=fun a b σ=>mB (asT a) (asI b) (fun ds i=>if Dv i=true then ((seqIndex? i ds.length).bind (ds[·]?)).map fun x=>(.d x,σ) else none) <|
  mB (asM a) (asI b) (fun tb i=>(tb.lookup i).map fun x=>(.d x,σ)) <|
  mB (asS a) (asI b) (fun x i=>if Dv i=true then ((seqIndex? i x.length).bind (x.cps[·]?)).map fun ch=>(.d (.str ⟨#[ch]⟩),σ) else none) <|
  (asI b).bind fun i=>if Dv i=true then (AU σ a).bind fun l=>((seqIndex? i l.length).bind (l[·]?)).map fun x=>(x,σ) else none
noncomputable abbrev Bf:F2:=fX AE
noncomputable def Gv {α:Type}(l:List α)(lo hi:Option Int):List α:=(l.drop (kms_lo lo l.length)).take (kms_hi hi l.length - kms_lo lo l.length)
noncomputable def YN:AV→Option (Option Int)
  | .d .none=>some none
  | .d (.int i)=>some (some i)
  | _=>none
noncomputable def o1 {α γ:Type}(o:Option α)(f:α→Option γ)(z:Option γ):Option γ:=match o with
  | none=>z
  | some i=>f i
theorem IT {α γ:Type}{o:Option α}{f:α→Option γ}{z:Option γ}{r:γ}(e:o1 o f z=some r):(∃ i,o=some i∧f i=some r)∨z=some r:=by
  cases o with
  | none=>exact .inr e
  | some i=>exact .inl ⟨i,rfl,e⟩
noncomputable def natP:Option Int→Option Nat
  | some (.ofNat i)=>some i
  | _=>none
theorem A4c {o:Option Int}{i:Nat}(h:natP o=some i):o=some (.ofNat i):=by
  cases o with
  | none=>cases h
  | some j=>cases j <;> cases h;rfl
theorem Z6 {α:Type}{c:Prop} [Decidable c] {x:Option α}{b:α}(h:(if c then x else none)=some b):c∧x=some b:=by
  by_cases k:c
  · rw [if_pos k] at h;exact ⟨k,h⟩
  · rw [if_neg k] at h;cases h
noncomputable def SG (frz:Bool)(l:List AV)(lo hi:Option Int)(σ:Sto):Option (AV×Sto):=match frz with
  | true=>(Ez (Gv l lo hi)).map fun ds=>(.d (.lst ds),σ)
  | false=>some (.loc σ.length,σ ++ [.list (Gv l lo hi)])
noncomputable def Ie (frz:Bool)(a lo hi:AV)(σ:Sto):Option (AV×Sto):=(YN lo).bind fun lo=>(YN hi).bind fun hi =>
  o1 (asS a) (fun x=>if x.length≤sizeLine then some (.d (.str (Txt.slice x lo hi)),σ) else none) <|
  o1 (asT a) (fun ds=>(natP lo).bind fun i=>if hi.isNone=true∧ds.length≤sizeLine∧1≤i∧i≤ds.length then some (.d (.tup (ds.drop i)),σ) else none) <|
  (AU σ a).bind fun l=>if l.length≤sizeLine then SG frz l lo hi σ else none
noncomputable def fSl (frz:Bool)(a lo hi:AV)(σ:Sto)(Q:AV→Sto→Prop):Prop:=∃ r,Ie frz a lo hi σ = some r∧Q r.1 r.2
noncomputable def tSl (frz:Bool)(tv tl tu:TE):TE:=fun ρ σ Q=>tv ρ σ fun a σ₁=>tl ρ σ₁ fun lo σ₂=>tu ρ σ₂ fun hi σ₃=>fSl frz a lo hi σ₃ Q
theorem UI {i:Int}{n j:Nat}(h:seqIndex? i n=some j):j < n∧((0≤i∧j=i.toNat)∨(i < 0∧-(n:Int)≤i∧j=(i+n).toNat)):=by
  obtain ⟨e,rfl⟩:=Bq h
  by_cases hi:i < 0
  · rw [if_pos hi,Bool.and_eq_true,decide_eq_true_eq,decide_eq_true_eq] at e
    exact ⟨by rw [if_pos hi];omega,.inr ⟨hi,by omega,by rw [if_pos hi]⟩⟩
  · rw [if_neg hi,Bool.and_eq_true,decide_eq_true_eq,decide_eq_true_eq] at e
    exact ⟨by rw [if_neg hi];omega,.inl ⟨by omega,by rw [if_neg hi]⟩⟩
theorem SN {α β:Type}{R:α→β→Prop}{l:List α}{vs:List β}(h:B1 R l vs)(lo hi:Option Int):B1 R (Gv l lo hi) (Gv vs lo hi):=by
  unfold Gv;rw [h.length];exact (h.drop _).take _
theorem OZ (value:Expr)(x:Str)(t:Tok)(r:Value):letTemporaryGo value (.str x t) r=pure ():=by
  cases value <;> rfl
section
variable {G:Gl}{lv:Nat}{env:Env}{vars:List Str}
section
variable {value slice:Expr}(hs:∀ o i,subscripted slice false o i=operate [o,i] (getItem o i))
include hs
theorem A5i:Pa G lv (subscriptTail value slice) asT asI fun ds i σ=>if Dv i=true then ((seqIndex? i ds.length).bind (ds[·]?)).map fun x=>(.d x,σ) else none:=by
  intro A h₀ L m fx σ c s a b va vb ds i r Q Qc E P ra rb h1 h2 e q k;obtain ⟨x,vs,n,rfl,g1,g2⟩:=Hg (O7 h1 ▸ ra);obtain ⟨u,rfl⟩:=rcI rb h2;obtain ⟨hi,e⟩:=Z6 e;have hi:=Mc hi;obtain ⟨y,e3,rfl⟩:=Bx e;obtain ⟨j,e1,e2⟩:=Az e3;obtain ⟨v,h3,h4⟩:=g2.get e2;have ht:IsTup s.heap x vs.toArray:=⟨_,P.good g1,rfl,_,rfl⟩;refine tail_any ht.typeIs slot_tuple_getitem.lookup (getItem_tuple ht hi.1 hi.2 (by rw [List.size_toArray,g2.length];exact e1) (by simpa using h3) ?_) (hs _ _);exact k _ _ _ s.heap s.toks c q P.rep (.refl c) h4
theorem A5g:Pa G lv (subscriptTail value slice) asM asI fun tb i σ=>(tb.lookup i).map fun x=>(.d x,σ):=by
  intro A h₀ L m fx σ c s a b va vb tb i r Q Qc E P ra rb h1 h2 e q k;obtain ⟨x,es,n,rfl,g0,g1,g2⟩:=P7 (A00 h1 ▸ ra);obtain ⟨u,rfl⟩:=rcI rb h2;obtain ⟨y,e3,rfl⟩:=Bx e;obtain ⟨r,er,hr⟩:=ME i g2;rw [e3] at hr;cases r with
  | none=>exact hr.elim
  | some v =>
    have hm:=PV (prog:=G.prog) (w:=G.w) (P.good g1) g2;refine tail_any hm.typeIs slot_dict_getitem.lookup (wpAny_getItem_of (intKind_is G.prog G.w i u) hm er ?_) (hs _ _);exact k _ _ _ s.heap (s.toks+1) c q P.rep (.refl c) hr
theorem A5h:Pa G lv (subscriptTail value slice) asS asI fun x i σ=>if Dv i=true then ((seqIndex? i x.length).bind (x.cps[·]?)).map fun ch=>(.d (.str ⟨#[ch]⟩),σ) else none:=by
  intro A h₀ L m fx σ c s a b va vb x i r Q Qc E P ra rb h1 h2 e q k;obtain ⟨t,rfl⟩:=rcS ra h1;obtain ⟨u,rfl⟩:=rcI rb h2;obtain ⟨hi,e⟩:=Z6 e;have hi:=Mc hi;obtain ⟨y,e3,rfl⟩:=Bx e;refine tail_any (typeIs_str _ _ _) PySem.F.slot_str_getitem.lookup (PyProof.Rows.getItem_str (by have h1:=hi.1;have h2:=hi.2;simp;omega) e3 ?_) (hs _ _);exact k _ _ _ s.heap (s.toks+1) c q P.rep (.refl c) (.str _ _)
theorem A5f:Op2 G lv (subscriptTail value slice) (fX fun a b σ=>(asI b).bind fun i=>if Dv i=true then (AU σ a).bind fun l=>((seqIndex? i l.length).bind (l[·]?)).map fun x=>(x,σ) else none):=by
  intro A h₀ L m fx σ c s a b va vb Q Qc E P ra rb ⟨r,e,q⟩ k;obtain ⟨i,h2,e⟩:=Az e;obtain ⟨u,rfl⟩:=rcI rb h2;obtain ⟨hi,e⟩:=Z6 e;have hi:=Mc hi;obtain ⟨l,e0,e⟩:=Az e;obtain ⟨y,e3,rfl⟩:=Bx e;obtain ⟨j,e1,e2⟩:=Az e3;obtain ⟨x,vs,n,rfl,g1,g2⟩:=Bo P ra e0;obtain ⟨v,h3,h4⟩:=g2.get e2;have hl:=BV g1;have fin:Qc v s:=k _ _ _ s.heap s.toks c q P.rep (.refl c) h4;obtain ⟨hj,hc⟩:=UI e1;refine tail_any hl.typeIs slot_list_getitem.lookup ?_ (hs _ _);rcases hc with ⟨h0,rfl⟩ | ⟨h0,h5,rfl⟩
  · exact wpAny_getItem_list hl h0 hi.2 (by simpa using h3) fin
  · exact wpAny_getItem_list_neg hl h0 (by rw [List.size_toArray,← g2.length];exact h5) hi.1 (by rw [List.size_toArray,← g2.length];simpa using h3) fin
theorem O_get:Op2 G lv (subscriptTail value slice) Bf:=GH (A5i hs) (GH (A5g hs) (GH (A5h hs) (A5f hs)))
end
set_option tactic.hygienic true in
theorem S_Sub {value slice:Expr}{pos:Pos}{ta tb:TE}(ha:Au G lv env vars value ta)(hb:Au G lv env vars slice tb)(hs:∀ o i,subscripted slice false o i=operate [o,i] (getItem o i)) :
    Au G lv env vars (.Subscript value slice pos) (Aq Bf ta tb):=by
  intro A h₀ L m fx ρ σ c s Q Qc E P q k;refine Subscript_ (ha A h₀ L m fx ρ σ c s _ _ E P q fun a σ₁ va h₁ tk₁ c₁ q₁ r₁ l₁ x₁=>?_);refine hb A h₀ L m fx ρ σ₁ c₁ _ _ _ E (P.next r₁ l₁) q₁ fun b σ₂ vb h₂ tk₂ c₂ q₂ r₂ l₂ x₂=>?_;exact O_get hs A h₀ L m fx σ₂ c₂ _ a b va vb Q Qc E ⟨P.cx,r₂⟩ (Rc.mono l₂ _ _ x₁) x₂ q₂ (Kn.after (Kn.after k l₁) l₂)
noncomputable abbrev JG (G:Gl) (lv:Nat) (env:Env) (vars:List Str) (e:Option Expr) (t:TE):Prop:=FZ G lv env vars (evalPart e env) AV Rc t
theorem S_pn:JG G lv env vars none (tD .none):=
  fun ξ ξ ξ ξ ξ ξ ξ c s ξ ξ ξ P q k=>wpAny_pure (k _ _ _ s.heap s.toks c q P.rep (.refl c) .none)
theorem S_ps {e:Expr}{t:TE}(h:Au G lv env vars e t):JG G lv env vars (some e) t:=h
theorem YY {hT:Heap}{c:Cs}{a:AV}{v:Value}{o:Option Int}(h:Rc hT c a v)(e:YN a=some o):IsPart v o∧((o=none∧v=.none)∨∃ i t,o=some i∧v=.int i t):=by
  unfold YN at e;split at e
  · cases e;obtain rfl:=KU h;exact ⟨.none,.inl ⟨rfl,rfl⟩⟩
  · cases e;obtain ⟨t,rfl⟩:=DY h;exact ⟨.int _ _,.inr ⟨_,_,rfl,rfl⟩⟩
  · cases e
theorem O_slS {value:Expr}{elo ehi:Option Expr}{p:Pos}{A:Around}{h₀:Heap}{L:Addr}{m:Str→Option Value}{fx:Led}{σ:Sto}{c:Cs}{s:Shared}{a:AV}{va vl vu:Value} {o1 o2:Option Int}{Q:AV→Sto→Prop}{Qc:Value→Shared→Prop}{E:Value→Shared→Prop}(P:Pv G lv A h₀ L m fx σ c s)(ra:Rc G.hT c a va) (c1:(o1=none∧vl=.none)∨∃ i t,o1=some i∧vl=.int i t) (c2:(o2=none∧vu=.none)∨∃ i t,o2=some i∧vu=.int i t){x:Str} (h0:asS a=some x)(hz:x.length≤sizeLine)(q:Q (.d (.str (Txt.slice x o1 o2))) σ)(k:Kn G h₀ L m fx c s Rc Q Qc) :
    wpAny (model G.prog G.w) A (subscriptTail value (.Slice elo ehi none p) va (.ref s.heap.objs.size)) Qc E {s with heap:=s.heap.push {cls:=.type "slice",data:=.fields #[vl,vu,.none]}}:=by
  obtain ⟨t,rfl⟩:=rcS ra h0;have fin:∀ h' t' kk,Fr h₀ L h' m→News h₀ L h' (c.ml++(c.pl++fx))→Qc (.str (Txt.slice x o1 o2) t') {s with heap:=h',toks:=kk}:=fun h' t' kk F' N' =>
    k _ _ _ h' kk c q (P.rep.setM F' N') (.refl c) (.str _ _)
  rcases c1 with ⟨rfl,rfl⟩ | ⟨i,ti,rfl,rfl⟩ <;> rcases c2 with ⟨rfl,rfl⟩ | ⟨j,tj,rfl,rfl⟩
  · exact slice_strN_nn P.F P.N fin rfl (OZ _ _ _) hz
  · exact slice_strN_ns P.F P.N fin rfl (OZ _ _ _) hz
  · exact slice_strN_sn P.F P.N fin rfl (OZ _ _ _) hz
  · exact slice_strN_ss P.F P.N fin rfl (OZ _ _ _) hz
theorem A2H {A:Around}{h₀:Heap}{L:Addr}{m:Str→Option Value}{fx:Led}{σ:Sto}{c:Cs}{s:Shared}(P:Pv G lv A h₀ L m fx σ c s)(o:Obj) :
    Fr h₀ L (s.heap.push o) m∧News h₀ L (s.heap.push o) (c.ml++(c.pl++fx))∧∀ p∈c.ml++(c.pl++fx),p.1 < (s.heap.push o).objs.size:=
  ⟨P.F.push _,fun p hp=>⟨Heap.get?_push_of_some _ (P.N p hp).1,(P.N p hp).2⟩,fun p hp=>by have:=P.rep.lt p hp;rw [Heap.size_push];exact Nat.lt_succ_of_lt this⟩
theorem O_slT {value:Expr}{elo ehi:Option Expr}{p:Pos}{A:Around}{h₀:Heap}{L:Addr}{m:Str→Option Value}{fx:Led}{σ:Sto}{c:Cs}{s:Shared}{a:AV}{va vl vu:Value} {o1 o2:Option Int}{Q:AV→Sto→Prop}{Qc:Value→Shared→Prop}{E:Value→Shared→Prop}(P:Pv G lv A h₀ L m fx σ c s)(ra:Rc G.hT c a va) (c1:(o1=none∧vl=.none)∨∃ i t,o1=some i∧vl=.int i t) (c2:(o2=none∧vu=.none)∨∃ i t,o2=some i∧vu=.int i t){ds:List D}{i:Nat} (h0:asT a=some ds)(hn:natP o1=some i)(hi:o2.isNone=true)(hz:ds.length≤sizeLine) (hi1:1≤i) (hi2:i≤ds.length)(q:Q (.d (.tup (ds.drop i))) σ)(k:Kn G h₀ L m fx c s Rc Q Qc) :
    wpAny (model G.prog G.w) A (subscriptTail value (.Slice elo ehi none p) va (.ref s.heap.objs.size)) Qc E {s with heap:=s.heap.push {cls:=.type "slice",data:=.fields #[vl,vu,.none]}}:=by
  obtain ⟨x,vs,n,rfl,h1,h2⟩:=Hg (O7 h0 ▸ ra);rw [A4c hn] at c1;rcases c1 with ⟨h,_⟩ | ⟨j,tj,h,rfl⟩
  · cases h
  cases h;rcases c2 with ⟨_,rfl⟩ | ⟨_,_,rfl,_⟩
  case inr=>cases hi
  have g:=P.good h1;have ht:IsTup (s.heap.push {cls:=.type "slice",data:=.fields #[.int i tj,.none,.none]}) x vs.toArray:=⟨_,Heap.get?_push_of_some _ g,rfl,_,rfl⟩;have hlen:=(List.size_toArray (as:=vs)).trans h2.length;refine tail_any (s:={s with heap:=s.heap.push {cls:=.type "slice",data:=.fields #[.int i tj,.none,.none]}}) (ops:=[.ref s.heap.objs.size,.ref x]) ht.typeIs slot_tuple_getitem.lookup
    (getItem_tuple_from ht (Heap.IsSliceOf.new ..) hi1 (by rw [hlen];exact hi2) ?_ (by rw [hlen];exact hz)) rfl
  obtain ⟨F1,N1,lt2⟩:=A2H P {cls:=.type "slice",data:=.fields #[.int i tj,.none,.none]};have N2:=News.push F1 N1 {cls:=.type "tuple",data:=.seq (vs.toArray.toList.drop i).toArray};have hd:=IC (P:=Pm G.hT c.pl) (ad:=c.ad) (vs:=vs.drop i) (ds:=List.drop i _) (by rw [List.map_drop];exact (KR h2).drop i);obtain ⟨r,xx⟩:=newT (n:=0) P (F1.push _) hd N2 lt2;exact k _ _ _ _ s.toks _ q r HB xx
theorem O_slL {value:Expr}{elo ehi:Option Expr}{p:Pos}{A:Around}{h₀:Heap}{L:Addr}{m:Str→Option Value}{fx:Led}{σ:Sto}{c:Cs}{s:Shared}{a:AV}{va vl vu:Value} {o1 o2:Option Int}{Q:AV→Sto→Prop}{Qc:Value→Shared→Prop}{E:Value→Shared→Prop}(P:Pv G lv A h₀ L m fx σ c s)(ra:Rc G.hT c a va) (c1:(o1=none∧vl=.none)∨∃ i t,o1=some i∧vl=.int i t) (c2:(o2=none∧vu=.none)∨∃ i t,o2=some i∧vu=.int i t){l:List AV}{r:AV×Sto}{frz:Bool} (p1:IsPart vl o1) (p2:IsPart vu o2)(e:AU σ a=some l)(hz:l.length≤sizeLine)(e':SG frz l o1 o2 σ = some r)(q:Q r.1 r.2)(k:Kn G h₀ L m fx c s Rc Q Qc) :
    wpAny (model G.prog G.w) A (subscriptTail value (.Slice elo ehi none p) va (.ref s.heap.objs.size)) Qc E {s with heap:=s.heap.push {cls:=.type "slice",data:=.fields #[vl,vu,.none]}}:=by
  obtain ⟨x,vs,n,rfl,g,h2⟩:=Bo P ra e;have hl:=BV (Heap.get?_push_of_some {cls:=.type "slice",data:=.fields #[vl,vu,.none]} g);refine tail_any (s:={s with heap:=s.heap.push {cls:=.type "slice",data:=.fields #[vl,vu,.none]}}) (ops:=[.ref s.heap.objs.size,.ref x]) hl.typeIs slot_list_getitem.lookup
    (wpAny_getItem_list_slice hl (Heap.IsSliceOf.new ..) p1 p2 .none (by simp) ?_ (by rw [List.size_toArray,← h2.length];exact hz)) rfl
  obtain ⟨F1,N1,lt2⟩:=A2H P {cls:=.type "slice",data:=.fields #[vl,vu,.none]};have ep:slicePick vs.toArray o1 o2 none=(Gv vs o1 o2).toArray:=by rw [kms_pick_eq];rfl
  rw [ep];have N2:=News.push F1 N1 (listOf (Gv vs o1 o2).toArray 0);cases frz with
  | true =>
    obtain ⟨ds,e4,rfl⟩:=Bx e';have hd:=SN h2 o1 o2;rw [IM e4] at hd;obtain ⟨r,xx⟩:=newF P (F1.push _) (IC hd) N2 lt2;exact k _ _ _ _ s.toks _ q r HB xx
  | false =>
    cases e';exact k _ _ _ _ s.toks _ q (A2g P (SN h2 o1 o2) (F1.push _) N2 lt2) GK (HK P.rep.so.length)
theorem O_sl {value:Expr}{elo ehi:Option Expr}{p:Pos}{frz:Bool}{A:Around}{h₀:Heap}{L:Addr}{m:Str→Option Value}{fx:Led}{σ:Sto}{c:Cs}{s:Shared}{a lo hi:AV}{va vl vu:Value}{Q:AV→Sto→Prop}{Qc:Value→Shared→Prop}{E:Value→Shared→Prop}(P:Pv G lv A h₀ L m fx σ c s)(ra:Rc G.hT c a va)(rl:Rc G.hT c lo vl)(ru:Rc G.hT c hi vu)(q:fSl frz a lo hi σ Q)(k:Kn G h₀ L m fx c s Rc Q Qc) :
    wpAny (model G.prog G.w) A (subscriptTail value (.Slice elo ehi none p) va (.ref s.heap.objs.size)) Qc E {s with heap:=s.heap.push {cls:=.type "slice",data:=.fields #[vl,vu,.none]}}:=by
  obtain ⟨r,e,q⟩:=q;obtain ⟨o1,e1,e⟩:=Az e;obtain ⟨o2,e2,e⟩:=Az e;obtain ⟨p1,c1⟩:=YY rl e1;obtain ⟨p2,c2⟩:=YY ru e2;rcases IT e with ⟨x,h0,e⟩ | e
  · obtain ⟨hz,rfl⟩:=Bq e
    exact O_slS P ra c1 c2 h0 hz q k
  rcases IT e with ⟨ds,h0,e⟩ | e
  · obtain ⟨i,hn,e⟩:=Az e
    obtain ⟨⟨hi,hz,h1,h2⟩,rfl⟩:=Bq e;exact O_slT P ra c1 c2 h0 hn hi hz h1 h2 q k
  obtain ⟨l,h0,e⟩:=Az e;obtain ⟨hz,e⟩:=Z6 e;exact O_slL P ra c1 c2 p1 p2 h0 hz e q k
set_option tactic.hygienic true in
theorem S_Sl {value:Expr}{elo ehi:Option Expr}{p pos:Pos}{tv tl tu:TE}(frz:Bool)(hv:Au G lv env vars value tv)(hl:JG G lv env vars elo tl)(hu:JG G lv env vars ehi tu) :
    Au G lv env vars (.Subscript value (.Slice elo ehi none p) pos) (tSl frz tv tl tu):=by
  intro A h₀ L m fx ρ σ c s Q Qc E P q k;refine Subscript_ (hv A h₀ L m fx ρ σ c s _ _ E P q fun a σ₁ va h₁ tk₁ c₁ q₁ r₁ l₁ x₁=>?_);refine wpAny_Slice (hl A h₀ L m fx ρ σ₁ c₁ _ _ _ E (P.next r₁ l₁) q₁ fun b σ₂ vb h₂ tk₂ c₂ q₂ r₂ l₂ x₂=>?_);refine hu A h₀ L m fx ρ σ₂ c₂ _ _ _ E (P.next (tk:=tk₂) r₂ (l₁.trans l₂)) q₂ fun d σ₃ vd h₃ tk₃ c₃ q₃ r₃ l₃ x₃=>?_;refine wpAny_pure ?_;exact O_sl (s:={s with heap:=h₃,toks:=tk₃}) ⟨P.cx,r₃⟩ (Rc.mono (l₂.trans l₃) _ _ x₁) (Rc.mono l₃ _ _ x₂) x₃ q₃ (Kn.after k (l₁.trans (l₂.trans l₃)))
end
noncomputable def Ve (K:Frag)(C:Addr)(name:Str):Bool:=plainGet K C name && hasDictIn K C && (match findIn K (.ref C) name with | some attr=>noGet K attr | none=>false)
noncomputable def Ww (K:Frag)(C:Addr)(name:Str):Bool:=(findIn K (.ref C) "__setattr__" == some (some (.builtin "object.__setattr__"))) && plainOver K C && hasDictIn K C && (takerIn K C name == some none)
noncomputable def Ed (K:Frag)(C:Addr)(name:Str)(f:Addr):Bool:=plainGet K C name && (findIn K (.ref C) name == some (some (.ref f))) && isFn K (.ref f)
noncomputable def ID (σ:Sto):AV→Option (Addr×List (Str×AV))
  | .d (.obj C fs)=>some (C,fs.map fun p=>(p.1,.d p.2))
  | .loc n=>match σ[n]? with
    | some (.inst C fs)=>some (C,fs)
    | _=>none
  | _=>none
noncomputable def Fy:AV→Bool
  | .d (.val _)=>false
  | _=>true
noncomputable def MP (name:Str)(v:AV):List (Str×AV)→List (Str×AV)
  | []=>[(name,v)]
  | (x,a)::r=>if x == name then (x,v)::r else (x,a)::MP name v r
section
variable {R:AV→Value→Prop}
theorem A1i {P:Addr→Obj→Prop}{ad:List Addr}:∀ {es:List DictEntry} {fs:List (Str×D)},DnF P es fs→FsR (Rv P ad) (fs.map fun p=>(p.1,.d p.2)) es
  | _,_,.nil=>.nil
  | _,_,.cons h r=>.cons h (A1i r)
theorem A6w {fs:List (Str×AV)}{es:List DictEntry}(h:FsR R fs es):∀ e∈es,e.refKey=false:=by
  induction h with
  | nil=>intro e he;cases he
  | cons _ _ ih =>
    intro e he;rcases List.mem_cons.mp he with rfl | he
    · rfl
    · exact ih e he
set_option tactic.hygienic true in
theorem U1 {name:Str}{fs:List (Str×AV)}{es:List DictEntry}(h:FsR R fs es):match fs.lookup name with
    | some av=>∃ v,getL name es=some (some v)∧R av v
    | none=>getL name es=some none:=by
  have key:match fs.lookup name with
      | some av=>∃ e,es.find? (·.key.isStr name)=some e∧R av e.val
      | none=>es.find? (·.key.isStr name)=none:=by
    induction h with
    | nil=>rfl
    | cons hv hr ih =>
      rename_i hh x t v av es fs
      by_cases hx:x=name
      · subst hx
        rw [List.lookup_cons,beq_self_eq_true];refine ⟨_,List.find?_cons_of_pos (by simp [Value.isStr]),hv⟩
      · have h1:(name == x)=false:=beq_eq_false_iff_ne.mpr fun q=>hx q.symm
        have h2:((⟨hh,.str x t,v⟩:DictEntry).key.isStr name)=false:=by simp [Value.isStr,hx]
        have h3:List.lookup name ((x,av)::fs)=List.lookup name fs:=by rw [List.lookup_cons,h1]
        have h4:List.find? (fun e:DictEntry=>e.key.isStr name) (⟨hh,.str x t,v⟩::es)=List.find? (fun e=>e.key.isStr name) es:=List.find?_cons_of_neg (by rw [h2];decide);rw [h3,h4];exact ih
  unfold getL;split at key
  · obtain ⟨e,he,hr⟩:=key
    rw [he];exact ⟨_,rfl,hr⟩
  · rw [key]
    dsimp only;rw [if_neg];intro q;obtain ⟨e,he,hk⟩:=List.any_eq_true.mp q;rw [A6w h e he] at hk;cases hk
theorem A6x {fs:List (Str×AV)}{es:List DictEntry}(h:FsR R fs es):es.length=fs.length:=by
  induction h with
  | nil=>rfl
  | cons _ _ ih=>rw [List.length_cons,List.length_cons,ih]
theorem A2w (name:Str)(hh:Int)(k v:Value)(es:List DictEntry):(putL name hh k v es).length≤es.length+1:=by
  induction es with
  | nil=>exact Nat.le_refl _
  | cons e r ih =>
    unfold putL;split
    · simp
    · simp only [List.length_cons];omega
set_option tactic.hygienic true in
theorem A6y {name:Str}{hh:Int}{t:Tok}{av:AV}{v:Value}{fs:List (Str×AV)}{es:List DictEntry}(h:FsR R fs es)(hv:R av v):FsR R (MP name av fs) (putL name hh (.str name t) v es):=by
  induction h with
  | nil=>exact .cons hv .nil
  | cons h1 h2 ih =>
    rename_i hh' x t' v' av' es fs;unfold MP putL;have e:((⟨hh',.str x t',v'⟩:DictEntry).key.isStr name)=(x == name):=rfl;rw [e];split
    · exact .cons hv h2
    · exact .cons h1 ih
end
theorem UO {d:Addr}{o o':Obj}:∀ {pre post:List (Addr×Obj)},(∀ p∈pre,p.1≠d)→(∀ p∈post,p.1≠d)→Upd d o o' (pre++(d,o)::post) (pre++(d,o')::post)
  | [],_,_,h=>.head h
  | p::_,_,h,k=>.tail (h p (.head _)) (UO (fun q hq=>h q (.tail _ hq)) k)
theorem Uk {hT:Heap}{c:Cs}{a:AV}{v:Value}(h:Rc hT c a v)(e:Fy a=true):handedIn v=true:=by
  cases a with
  | loc n=>obtain ⟨x,_,rfl⟩:=h;rfl
  | d x =>
    have h:Dn _ v x:=h;cases h <;> first | rfl | cases e
section
variable {G:Gl}{lv:Nat}{A:Around}{h₀:Heap}{L:Addr}{m:Str→Option Value}{fx:Led}{σ:Sto}{c:Cs}{s:Shared}
theorem VU (P:Pv G lv A h₀ L m fx σ c s){n:Nat}{C:Addr}{fs:List (Str×AV)}(e:σ[n]? = some (.inst C fs)) :
    ∃ x dx es k pre post,c.ad[n]? = some x∧c.ml=pre++((x,instObj C dx)::(dx,dictOf es k)::post)∧FsR (Rc G.hT c) fs es ∧
      ∀ fs' es' k',FsR (Rc G.hT c) fs' es'→SOs (Rc G.hT c) (σ.set n (.inst C fs')) c.ad (pre++((x,instObj C dx)::(dx,dictOf es' k')::post)):=by
  obtain ⟨a,pre,mid,post,h1,h2,⟨dx,es,k,x,rfl⟩,h4⟩:=P.rep.so.at_ e;exact ⟨a,dx,es,k,pre,post,h1,h2,x,fun fs' es' k' y=>h4 (.inst C fs') [(a,instObj C dx),(dx,dictOf es' k')] ⟨dx,es',k',y,rfl⟩⟩
set_option tactic.hygienic true in
theorem U6 (P:Pv G lv A h₀ L m fx σ c s){av:AV}{v:Value}{C:Addr}{fs:List (Str×AV)}(h:Rc G.hT c av v)(e:ID σ av=some (C,fs)) :
    ∃ x dx es n,v=.ref x∧PySem.W.InstAt s.heap x (instObj C dx) C (some (dictOf es n))∧FsR (Rc G.hT c) fs es:=by
  unfold ID at e;split at e
  · cases e
    obtain ⟨x,dx,es,n,rfl,h1,h2,h3⟩:=A7y h;exact ⟨x,dx,es,n,rfl,⟨P.good h1,rfl,rfl,P.good h2⟩,A1i h3⟩
  · split at e
    · rename_i n _ C' fs' e'
      cases e;obtain ⟨x,dx,es,k,pre,post,h1,h2,h3,_⟩:=VU P e';obtain ⟨b,h5,rfl⟩:=h;have:x=b:=by rw [h1] at h5;exact Option.some.inj h5
      subst this;refine ⟨x,dx,es,k,rfl,⟨(P.rep.nw (x,_) ?_).1,rfl,rfl,(P.rep.nw (dx,_) ?_).1⟩,h3⟩ <;> (rw [h2];simp)
    · cases e
  · cases e
end
noncomputable def A1n (T:List Addr)(name:Str)(a:AV)(σ:Sto)(Q:AV→Sto→Prop):Prop:=match ID σ a with
  | some (C,fs)=>T.contains C=true∧(match fs.lookup name with
    | some av=>Fy av=true∧Q av σ
    | none=>False)
  | none=>False
noncomputable def AM (T:List Addr)(name:Str)(to:TE):TE:=fun ρ σ Q=>to ρ σ fun a σ₁=>A1n T name a σ₁ Q
section
variable {G:Gl}{lv:Nat}{env:Env}{vars:List Str}
set_option tactic.hygienic true in
theorem A3x {K:Frag}{C:Addr}{name:Str}(h:Ve K C name=true):plainGet K C name=true∧hasDictIn K C=true∧∃ attr,findIn K (.ref C) name=some attr∧noGet K attr=true:=by
  unfold Ve at h;rw [Bool.and_eq_true,Bool.and_eq_true] at h;obtain ⟨⟨h1,h2⟩,h3⟩:=h;split at h3
  · rename_i attr e;exact ⟨h1,h2,attr,e,h3⟩
  · cases h3
set_option tactic.hygienic true in
theorem A5s {T:List Addr}{value:Expr}{name:Str}{pos:Pos}{to:TE}(ho:Au G lv env vars value to)(hT:T.all (fun C=>Ve G.K C name)=true)
    (he:eval (.Attribute value name pos) env=(do
      let o ← eval value env
      standAt pos.atName
      let r ← holding [o] (getAttr o name true)
      letTemporaryGo value o r
      pure r):=by with_unfolding_all rfl):Au G lv env vars (.Attribute value name pos) (AM T name to):=by
  intro A h₀ L m fx ρ σ c s Q Qc E P q k;refine Attribute_any_ (ho A h₀ L m fx ρ σ c s _ _ E P q fun a σ₁ va h₁ tk₁ c₁ q₁ r₁ l₁ x₁=>?_) he;unfold A1n at q₁;split at q₁
  · rename_i C fs e
    obtain ⟨hC,q₁⟩:=q₁;split at q₁
    · rename_i av e'
      have P₁:Pv G lv A h₀ L m fx σ₁ c₁ {s with heap:=h₁,toks:=tk₁}:=⟨P.cx,r₁⟩
      obtain ⟨x,dx,es,n,rfl,I,F⟩:=U6 P₁ x₁ e;have g:=U1 (name:=name) F;rw [e'] at g;obtain ⟨v,hg,hv⟩:=g;obtain ⟨o1,o2,attr,o3,o4⟩:=A3x (List.all_eq_true.mp hT C (List.contains_iff_mem.mp hC));exact get_own P₁.F P.cx.X I o1 o2 o3 o4 hg (Uk hv q₁.1) (k _ _ _ h₁ _ c₁ q₁.2 r₁ l₁ hv)
    · exact q₁.elim
  · exact q₁.elim
end
noncomputable def A1p (T:List Addr)(name:Str)(a v:AV)(σ:Sto)(Q:Sto→Prop):Prop:=match a with
  | .loc n=>(match σ[n]? with
    | some (.inst C fs)=>T.contains C=true∧fs.length < 1000∧Q (σ.set n (.inst C (MP name v fs)))
    | _=>False)
  | _=>False
theorem A4n {K:Frag}{C:Addr}{name:Str}(h:Ww K C name=true):findIn K (.ref C) "__setattr__" = some (some (.builtin "object.__setattr__"))∧plainOver K C=true∧hasDictIn K C=true∧takerIn K C name=some none:=by
  unfold Ww at h;simp only [Bool.and_eq_true,beq_iff_eq] at h;exact ⟨h.1.1.1,h.1.1.2,h.1.2,h.2⟩
set_option tactic.hygienic true in
theorem O_set {G:Gl}{lv:Nat}{A:Around}{h₀:Heap}{L:Addr}{m:Str→Option Value}{fx:Led}{σ:Sto}{c:Cs}{s:Shared}{T:List Addr}{name:Str}{a v:AV}{va vv:Value}{Q:Sto→Prop}{Qc:Unit→Shared→Prop}{E:Value→Shared→Prop}
    (hT:T.all (fun C=>Ww G.K C name)=true)(P:Pv G lv A h₀ L m fx σ c s)(ra:Rc G.hT c a va)(rv:Rc G.hT c v vv)(q:A1p T name a v σ Q)
    (k:∀ σ' h' tk c',Q σ'→Rep G.hT h₀ L h' m σ' c' fx→c.le c'→Qc () {s with heap:=h',toks:=tk}):wpAny (model G.prog G.w) A (setAttr va name vv) Qc E s:=by
  unfold A1p at q;split at q
  · split at q
    · rename_i n C fs e
      obtain ⟨hC,hz,q⟩:=q;obtain ⟨x,dx,es,kk,pre,post,h1,h2,h3,h4⟩:=VU P e;obtain ⟨b,h5,rfl⟩:=ra;have:x=b:=by rw [h1] at h5;exact Option.some.inj h5
      subst this;obtain ⟨o1,o2,o3,o4⟩:=A4n (List.all_eq_true.mp hT C (List.contains_iff_mem.mp hC));have I:PySem.W.InstAt s.heap x (instObj C dx) C (some (dictOf es kk)):=by
        refine ⟨(P.rep.nw (x,_) ?_).1,rfl,rfl,(P.rep.nw (dx,_) ?_).1⟩ <;> (rw [h2];simp)
      have hg:(getL name es).isSome=true:=by
        have g:=U1 (name:=name) h3;split at g
        · obtain ⟨_,g,_⟩:=g;rw [g];rfl
        · rw [g];rfl
      have hnd:=P.rep.nd;have e1:c.ml++(c.pl++fx)=(pre++[(x,instObj C dx)])++(dx,dictOf es kk)::(post++(c.pl++fx)):=by rw [h2];simp
      rw [e1] at hnd;obtain ⟨n1,n2⟩:(∀ p∈pre++[(x,instObj C dx)],p.1≠dx)∧∀ p∈post++(c.pl++fx),p.1≠dx:=by
        have z:=NJ (pre:=pre++[(x,instObj C dx)]) (mid:=[(dx,dictOf es kk)]) (post:=post++(c.pl++fx)) (fx:=[]) (by simpa using hnd);exact ⟨fun p hp=>z.1 _ (.head _) p hp,fun p hp=>z.2 _ (.head _) p (by simpa using hp)⟩
      have N:=P.N;rw [e1] at N;refine set_dict P.F P.cx.X N I rfl o1 o2 o4 o3 hg rfl (UO n1 n2) (by have:=A2w name (PyData.keyHash G.w.params name) (.str name (s.toks+1)) vv es;have:=A6x h3;omega) fun h' F' N'=>?_;refine k _ h' _ {c with ml:=pre++((x,instObj C dx)::(dx,dictOf (putL name (PyData.keyHash G.w.params name) (.str name (s.toks+1)) vv es) (putN name es kk))::post)} q ⟨F',?_,?_,?_⟩ ⟨⟨[],by simp⟩,fun p hp=>hp⟩
      · refine Cn N' fun p hp=>?_
        simpa using hp
      · have z:=P.rep.nd
        rw [h2] at z
        simpa using z
      · exact h4 _ _ _ (A6y h3 rv)
    · exact q.elim
  · exact q.elim
noncomputable abbrev CS:=List AV→Sto→(AV→Sto→Prop)→Prop
noncomputable def Ao (G:Gl)(lv:Nat)(f:Value)(t:CS):Prop:=
  ∀ (A:Around) (h₀:Heap) (L:Addr) (m:Str→Option Value) (fx:Led) (σ:Sto) (c:Cs) (s:Shared) (args:List AV) (vals:List Value) (Q:AV→Sto→Prop) (Qc:Value→Shared→Prop) (E:Value→Shared→Prop),
    Pv G lv A h₀ L m fx σ c s→Rl G.hT c args vals→t args σ Q→Kn G h₀ L m fx c s Rc Q Qc→wpAny (model G.prog G.w) A (call f vals) Qc E s
noncomputable def keeps (K:Frag)(f:Value):Bool:=match f with
  | .ref _=>keepIn K f
  | _=>true
theorem Qe {K:Frag}{M:Model}{f:Value}(hk:keeps K f=true)(h:Heap)(X:K.In h):∃ k,(k=Keeper.frame∨k=Keeper.machine∨k=Keeper.boundFrame)∧Looks M h (keeperOf f) k:=by
  cases f with
  | ref a=>exact keeps_K (f:=.ref a) hk h X
  | _=>exact ⟨.machine,.inr (.inl rfl),.now⟩
theorem M2 {M:Model}{A:Around}{E:Value→Shared→Prop}{s:Shared}{f:Value}{trees:List (Bool×Sem Value)}{Q:Args→Shared→Prop}(hp:trees.any (·.1)=false)
    (h:wpAny M A (spliced trees) (fun vs s'=>Q ⟨vs,[]⟩ s') E s):wpAny M A (evalArgs f true trees []) Q E s:=by
  cases trees with
  | nil =>
    unfold evalArgs;show wpAny M A (spliced [] >>= _) Q E s;refine wpAny_bind (wpAny_mono h (fun vs s' h'=>?_) fun ξ ξ x=>x);refine wpAny_holding ?_;exact wpAny_bind (wpAny_pure (wpAny_bind (wpAny_pure (wpAny_pure h'))))
  | cons t r =>
    obtain (⟨b,x⟩):=t;cases b with
    | true=>cases hp
    | false=>exact evalArgs_plain h
section
variable {G:Gl}{lv:Nat}{env:Env}{vars:List Str}
theorem LZ {f:Value}{t:CS}{pos:Pos}{args:List Expr}{ts:TEs}{A:Around}{h₀:Heap}{L:Addr}{m:Str→Option Value}{fx:Led}{ρ:Lo}{σ:Sto}{c:Cs}{s:Shared}{Q:AV→Sto→Prop}{Qc:Value→Shared→Prop}{E:Value→Shared→Prop}{first:List AV}{vfirst:List Value}
    (hv:Ao G lv f t)(hk:keeps G.K f=true)(hs:Bw G lv env vars args ts)(hp:(backTo pos (starEach args env)).any (·.1)=false)(P:Pl G lv env vars A h₀ L m fx ρ σ c s)
    (rf:Rl G.hT c first vfirst)(q:ts ρ σ fun l σ₁=>t (first++l) σ₁ Q)(k:Kn G h₀ L m fx c s Rc Q Qc):wpAny (model G.prog G.w) A (callWith pos f vfirst (backTo pos (starEach args env)) []) Qc E s:=by
  refine callWith_of (P:=G.K.In) (by rw [hp];rfl) (Qe hk) (M2 hp ?_);refine hs pos A h₀ L m fx ρ σ c s _ _ E P q fun l σ₁ vs h₁ tk₁ c₁ q₁ r₁ l₁ x₁=>?_;have P₁:Pv G lv A h₀ L m fx σ₁ c₁ {s with heap:=h₁,toks:=tk₁}:=⟨P.cx,r₁⟩
  exact ⟨P₁.X,hv A h₀ L m fx σ₁ c₁ _ _ _ Q Qc E P₁ ((rf.mono (Rc.mono l₁)).append x₁) q₁ (Kn.after k l₁)⟩
noncomputable def AB (ts:TEs)(t:CS):TE:=fun ρ σ Q=>ts ρ σ fun l σ₁=>t l σ₁ Q
set_option tactic.hygienic true in
theorem A5t {func:Expr}{f:Value}{t:CS}{args:List Expr}{pos:Pos}{ts:TEs}(hf:Au G lv env vars func (tD (.val f)))(hv:Ao G lv f t)(hk:keeps G.K f=true)(hs:Bw G lv env vars args ts)
    (he:eval (.Call func args [] pos) env=(do callWith pos (← eval func env) [] (backTo pos (starEach args env)) (backToKw pos (keywordEach [] env))))(hp:(backTo pos (starEach args env)).any (·.1)=false) :
    Au G lv env vars (.Call func args [] pos) (AB ts t):=by
  intro A h₀ L m fx ρ σ c s Q Qc E P q k;refine Call_ (hf A h₀ L m fx ρ σ c s (fun a σ₁=>a=.d (.val f)∧σ₁ = σ) _ E P ⟨rfl,rfl⟩ fun a σ₁ va h₁ tk₁ c₁ q₁ r₁ l₁ x₁=>?_) he;obtain ⟨rfl,rfl⟩:=q₁;obtain rfl:=UE x₁;exact LZ hv hk hs hp (P.next r₁ l₁) .nil q (Kn.after k l₁)
noncomputable def tMeth (name:Str)(T:List (Addr×CS))(to:TE)(ts:TEs):TE:=fun ρ σ Q=>to ρ σ fun a σ₁=>match ID σ₁ a with
  | some (C,fs)=>fs.lookup name=none∧(match T.lookup C with
    | some t=>ts ρ σ₁ fun l σ₂=>t (a::l) σ₂ Q
    | none=>False)
  | none=>False
noncomputable def AL (G:Gl)(lv:Nat)(name:Str)(T:List (Addr×CS)):Prop:=∀ C t,T.lookup C=some t→∃ f,Ed G.K C name f=true∧keeps G.K (.ref f)=true∧Ao G lv (.ref f) t
theorem AL.nil {name:Str}:AL G lv name []:=fun ξ ξ h=>by cases h
set_option tactic.hygienic true in
theorem AL.cons {name:Str}{C f:Addr}{t:CS}{T:List (Addr×CS)} (h1:Ed G.K C name f=true) (h2:keeps G.K (.ref f)=true) (h3:Ao G lv (.ref f) t)(h:AL G lv name T):AL G lv name ((C,t)::T):=by
  intro C' t' e;rw [List.lookup_cons] at e;split at e
  · rename_i hc
    cases e;obtain rfl:=beq_iff_eq.mp hc;exact ⟨f,h1,h2,h3⟩
  · exact h C' t' e
end
structure PlS (G:Gl) (lv:Nat) (env:Env) (vars:List Str) (A:Around) (h₀:Heap) (L:Addr) (m:Str→Option Value) (cl fx:Led) (ρ:Lo) (σ:Sto) (c:Cs) (s:Shared):Prop where
  pl:Pl G lv env vars A h₀ L m (cl++fx) ρ σ c s
  loc:env.locals=L
  ce:∀ x,env.kindOf x=some .cell→∃ a o v₀,env.cells.lookup x=some a∧(a,o)∈cl∧o.data=.cell v₀
inductive FlR (hT:Heap) (c:Cs):Fl→Flow→Prop
  | next:FlR hT c .next .next
  | brk:FlR hT c .brk .brk
  | cont:FlR hT c .cont .cont
  | ret {a:AV} {v:Value}:Rc hT c a v→FlR hT c (.ret a) (.ret v)
noncomputable abbrev KS {α:Type} (G:Gl) (lv:Nat) (env:Env) (vars:List Str) (A:Around) (h₀:Heap) (L:Addr) (fx:Led) (c:Cs) (s:Shared) (R:Heap→Cs→Fl→α→Prop) (Q:Fl→Lo→Sto→Prop) (Qc:α→Shared→Prop):Prop:=
  ∀ fl ρ' σ' m' cl' c' h' tk f,Q fl ρ' σ'→PlS G lv env vars A h₀ L m' cl' fx ρ' σ' c' {s with heap:=h',toks:=tk}→c.le c'→R G.hT c' fl f→Qc f {s with heap:=h',toks:=tk}
noncomputable def Ni {α:Type}(G:Gl)(lv:Nat)(env:Env)(vars:List Str)(tree:Sem α)(R:Heap→Cs→Fl→α→Prop)(t:TS):Prop:=
  ∀ (A:Around) (h₀:Heap) (L:Addr) (m:Str→Option Value) (cl fx:Led) (ρ:Lo) (σ:Sto) (c:Cs) (s:Shared) (Q:Fl→Lo→Sto→Prop) (Qc:α→Shared→Prop) (E:Value→Shared→Prop),
    PlS G lv env vars A h₀ L m cl fx ρ σ c s→t ρ σ Q→KS G lv env vars A h₀ L fx c s R Q Qc→wpAny (model G.prog G.w) A tree Qc E s
noncomputable abbrev Ca (G:Gl) (lv:Nat) (env:Env) (vars:List Str) (st:Stmt) (t:TS):Prop:=Ni G lv env vars (exec st env) FlR t
noncomputable abbrev BE (G:Gl) (lv:Nat) (env:Env) (vars:List Str) (b:List Stmt) (t:TS):Prop:=Ni G lv env vars (execs b env) FlR t
noncomputable def RU (_:Heap) (_:Cs)(fl:Fl) (_:Unit):Prop:=fl=.next
theorem KS.after {α:Type}{G:Gl}{lv:Nat}{env:Env}{vars:List Str}{A:Around}{h₀:Heap}{L:Addr}{fx:Led}{c c':Cs}{s:Shared}{R:Heap→Cs→Fl→α→Prop}{Q:Fl→Lo→Sto→Prop}{Qc:α→Shared→Prop}{h':Heap}{tk:Nat}
    (k:KS G lv env vars A h₀ L fx c s R Q Qc)(l:c.le c'):KS G lv env vars A h₀ L fx c' {s with heap:=h',toks:=tk} R Q Qc:=
  fun fl ρ' σ' m' cl' c2 h2 tk2 f q p l2 r=>k fl ρ' σ' m' cl' c2 h2 tk2 f q p (l.trans l2) r
set_option tactic.hygienic true in
theorem PlS.next {G:Gl}{lv:Nat}{env:Env}{vars:List Str}{A:Around}{h₀:Heap}{L:Addr}{m:Str→Option Value}{cl fx:Led}{ρ:Lo}{σ:Sto}{c:Cs}{s:Shared}{σ':Sto}{c':Cs}{h':Heap}{tk:Nat}
    (P:PlS G lv env vars A h₀ L m cl fx ρ σ c s)(r:Rep G.hT h₀ L h' m σ' c' (cl++fx))(l:c.le c'):PlS G lv env vars A h₀ L m cl fx ρ σ' c' {s with heap:=h',toks:=tk}:=⟨P.pl.next r l,P.loc,P.ce⟩
noncomputable def At:TS:=fun ρ σ Q=>Q .next ρ σ
noncomputable def As (a b:TS):TS:=fun ρ σ Q=>a ρ σ fun fl ρ' σ'=>match fl with
  | .next=>b ρ' σ' Q
  | fl=>Q fl ρ' σ'
noncomputable def Bi (t:TE):TS:=fun ρ σ Q=>t ρ σ fun a σ'=>Q (.ret a) ρ σ'
noncomputable def tSt (t:TE):TS:=fun ρ σ Q=>t ρ σ fun a σ'=>(match a with
  | .d .none=>True
  | .d (.int _)=>True
  | .d (.str _)=>True
  | _=>False)∧Q .next ρ σ'
noncomputable def Bb (b:TT)(x y:TS):TS:=fun ρ σ Q=>b ρ σ fun t σ'=>match t with
  | true=>x ρ σ' Q
  | false=>y ρ σ' Q
noncomputable def BY (i:Nat)(t:TE):TS:=fun ρ σ Q=>t ρ σ fun a σ'=>Q .next (ρ.set i (some a)) σ'
noncomputable def C1 (T:List Addr)(name:Str)(tv to:TE):TS:=fun ρ σ Q=>tv ρ σ fun v σ₁=>to ρ σ₁ fun a σ₂=>A1p T name a v σ₂ fun σ₃=>Q .next ρ σ₃
noncomputable def Gb:TS:=fun ξ ξ ξ=>False
section
variable {G:Gl}{lv:Nat}{env:Env}{vars:List Str}
set_option tactic.hygienic true in
theorem A5z:BE G lv env vars [] At:=
  fun _ _ _ m cl _ ρ σ c s _ _ _ P q k=>wpAny_execs_nil (k .next ρ σ m cl c s.heap s.toks _ q P (.refl c) .next)
set_option tactic.hygienic true in
theorem A3i {st:Stmt}{b:List Stmt}{x y:TS}(h:Ca G lv env vars st x)(k:BE G lv env vars b y):BE G lv env vars (st::b) (As x y):=by
  intro A h₀ L m cl fx ρ σ c s Q Qc E P q kk;refine wpAny_execs_cons (h A h₀ L m cl fx ρ σ c s _ _ E P q fun fl ρ' σ' m' cl' c' h' tk f q' P' l r=>?_);cases r with
  | next=>exact k A h₀ L m' cl' fx ρ' σ' c' _ Q Qc E P' q' (KS.after kk l)
  | brk=>exact kk _ _ _ _ _ _ _ _ _ q' P' l .brk
  | cont=>exact kk _ _ _ _ _ _ _ _ _ q' P' l .cont
  | ret r=>exact kk _ _ _ _ _ _ _ _ _ q' P' l (.ret r)
theorem S_noS {st:Stmt}:Ca G lv env vars st Gb:=fun ξ ξ ξ ξ ξ ξ ξ ξ ξ ξ ξ ξ ξ ξ q ξ=>q.elim
set_option tactic.hygienic true in
theorem S_ret {e:Expr}{pos:Pos}{t:TE}(h:Au G lv env vars e t):Ca G lv env vars (.Return (some e) pos) (Bi t):=by
  intro A h₀ L m cl fx ρ σ c s Q Qc E P q k;exact wpAny_Return_some (h A h₀ L m _ ρ σ c s _ _ E P.pl q fun a σ₁ v h₁ tk₁ c₁ q₁ r₁ l₁ x₁=>k _ _ _ _ _ _ _ _ _ q₁ (P.next r₁ l₁) l₁ (.ret x₁))
theorem A5I {pos:Pos}:Ca G lv env vars (.Return none pos) (Bi (tD .none)):=by
  intro A h₀ L m cl fx ρ σ c s Q Qc E P q k;exact wpAny_Return_none (k _ _ _ _ _ c s.heap s.toks _ q P (.refl c) (.ret .none))
set_option tactic.hygienic true in
theorem A5E {e:Expr}{pos:Pos}{t:TE}(h:Au G lv env vars e t)(hi:interactive env=false)(hs:swapsWith e none pos.line env=pure false):Ca G lv env vars (.Expr e pos) (tSt t):=by
  intro A h₀ L m cl fx ρ σ c s Q Qc E P q k;refine wpAny_Expr (h A h₀ L m _ ρ σ c s _ _ E P.pl q fun a σ₁ v h₁ tk₁ c₁ q₁ r₁ l₁ x₁=>?_) hi hs;obtain ⟨q₁,q₂⟩:=q₁;have fin:Qc .next {s with heap:=h₁,toks:=tk₁}:=k _ _ _ _ _ _ _ _ _ q₂ (P.next r₁ l₁) l₁ .next
  split at q₁
  · obtain rfl:=KU x₁;exact fin
  · obtain ⟨_,rfl⟩:=DY x₁;exact fin
  · obtain ⟨_,rfl⟩:=DZ x₁;exact fin
  · exact q₁.elim
set_option tactic.hygienic true in
theorem S_if {test:Expr}{body orelse:List Stmt}{pos:Pos}{b:TT}{x y:TS}(hb:Dg G lv env vars test b)(hx:BE G lv env vars body x)(hy:BE G lv env vars orelse y):Ca G lv env vars (.If test body orelse pos) (Bb b x y):=by
  intro A h₀ L m cl fx ρ σ c s Q Qc E P q k;refine wpAny_If (hb A h₀ L m _ ρ σ c s _ _ E P.pl q fun t σ₁ v h₁ tk₁ c₁ q₁ r₁ l₁ x₁=>?_);obtain rfl:v=t:=x₁;cases v with
  | true=>exact hx A h₀ L m cl fx ρ σ₁ c₁ _ Q Qc E (P.next r₁ l₁) q₁ (KS.after k l₁)
  | false=>exact hy A h₀ L m cl fx ρ σ₁ c₁ _ Q Qc E (P.next r₁ l₁) q₁ (KS.after k l₁)
set_option tactic.hygienic true in
theorem KN {A:Around}{h₀:Heap}{L:Addr}{m:Str→Option Value}{cl fx:Led}{ρ:Lo}{σ:Sto}{c:Cs}{s:Shared}{i:Nat}{x:Str}{a:AV}{v:Value}{Qc:Unit→Shared→Prop}{E:Value→Shared→Prop}
    (he:BJ env)(hx:vars[i]? = some x)(hnd:vars.Nodup)(hk:env.kindOf x=some .local)(P:PlS G lv env vars A h₀ L m cl fx ρ σ c s)(ra:Rc G.hT c a v)
    (k:∀ m' h' tk,PlS G lv env vars A h₀ L m' cl fx (ρ.set i (some a)) σ c {s with heap:=h',toks:=tk}→Qc () {s with heap:=h',toks:=tk}):wpAny (model G.prog G.w) A (storeName env x v) Qc E s:=by
  refine wpAny_storeName_local hk (by rw [P.loc];exact P.pl.rep.fr.ns) (fun h' hn hs=>?_) (by rw [he.kind];rfl);rw [P.loc] at hn hs;have F':=P.pl.rep.fr.set hn hs;refine k _ h' _ ⟨⟨P.pl.cx,P.pl.rep.setM F' (P.pl.rep.nw.set hs),?_⟩,P.loc,P.ce⟩;intro j av e;rw [List.getElem?_set] at e;split at e
  · rename_i hj
    subst hj;split at e
    · cases e
      exact ⟨x,v,hx,ra,.loc hk P.loc (by simp)⟩
    · cases e
  · rename_i hj
    obtain ⟨y,u,h1,h2,h3⟩:=P.pl.nr j av e;refine ⟨y,u,h1,h2,?_⟩;have hy:y≠x:=by
      rintro rfl;have hlt:i < vars.length:=by rw [List.getElem?_eq_some_iff] at hx;exact hx.1
      exact hj ((List.getElem?_inj hlt hnd).mp (hx.trans h1.symm))
    cases h3 with
    | loc q1 q2 q3=>exact .loc q1 q2 (by simp only [if_neg hy];exact q3)
    | blk q1 q2 q3 q4=>exact .blk q1 q2 q3 q4
    | cel q1 q2 q3 q4 q5=>exact .cel q1 q2 q3 q4 q5
set_option tactic.hygienic true in
theorem S_let {i:Nat}{x:Str}{value:Expr}{p pos:Pos}{t:TE}(he:BJ env)(hx:vars[i]? = some x)(hnd:vars.Nodup)(hk:env.kindOf x=some .local)(h:Au G lv env vars value t)
    (hs:swapsWith value (some (.Name x p)) pos.line env=pure false):Ca G lv env vars (.Assign [.Name x p] value pos) (BY i t):=by
  intro A h₀ L m cl fx ρ σ c s Q Qc E P q k;refine wpAny_Assign_Name (h A h₀ L m _ ρ σ c s _ _ E P.pl q fun a σ₁ v h₁ tk₁ c₁ q₁ r₁ l₁ x₁=>?_) hs;exact KN he hx hnd hk (P.next r₁ l₁) x₁ fun m' h' tk P'=>k _ _ _ _ _ _ _ _ _ q₁ P' l₁ .next
set_option tactic.hygienic true in
theorem A5J {T:List Addr}{o value:Expr}{name:Str}{p pos:Pos}{tv to:TE}(hv:Au G lv env vars value tv)(ho:Au G lv env vars o to)(hT:T.all (fun C=>Ww G.K C name)=true)
    (hs:swapsWith value (some (.Attribute o name p)) pos.line env=pure false):Ca G lv env vars (.Assign [.Attribute o name p] value pos) (C1 T name tv to):=by
  intro A h₀ L m cl fx ρ σ c s Q Qc E P q k;refine plainObj_wpAny_Assign_Attribute (hv A h₀ L m _ ρ σ c s _ _ E P.pl q fun v σ₁ vv h₁ tk₁ c₁ q₁ r₁ l₁ x₁=>?_) hs;refine ho A h₀ L m _ ρ σ₁ c₁ _ _ _ E (P.pl.next r₁ l₁) q₁ fun a σ₂ va h₂ tk₂ c₂ q₂ r₂ l₂ x₂=>?_;have P₂:=P.next (tk:=tk₂) r₂ (l₁.trans l₂);refine O_set hT P₂.pl.pv x₂ (Rc.mono l₂ _ _ x₁) q₂ fun σ' h' tk c' q' r' l'=>?_;exact k _ _ _ _ _ _ _ _ _ q' (P₂.next r' l') (l₁.trans (l₂.trans l')) .next
end
noncomputable def AT (n k:Nat)(t:TS):CS:=fun args σ Q=>args.length=n∧t (args.map some++List.replicate k none) σ fun fl _ σ'=>match fl with
  | .ret v=>Q v σ'
  | .next=>Q (.d .none) σ'
  | _=>False
theorem Cz:∀ (names:List (Str×NameKind))(n:Nat)(acc:List (Str×Addr)),(acc.map (·.2)).Nodup→(∀ p∈acc,p.2 < n)→((cellsFrom n names acc).map (·.2)).Nodup∧∀ p∈cellsFrom n names acc,p∈acc∨n≤p.2
  | [],n,acc,h,_=>⟨h,fun p hp=>.inl hp⟩
  | (x,k)::r,n,acc,h,hl=>by
    unfold cellsFrom;split
    · obtain ⟨h1,h2⟩:=Cz r (n+1) ((x,n)::acc) (by
        rw [List.map_cons,List.nodup_cons];refine ⟨fun hm=>?_,h⟩;obtain ⟨p,hp,e⟩:=List.mem_map.mp hm;exact absurd (hl p hp) (by rw [e];exact Nat.lt_irrefl _)) (fun p hp=>by
        rcases List.mem_cons.mp hp with rfl | hp
        · exact Nat.lt_succ_self _
        · exact Nat.lt_succ_of_lt (hl p hp))
      refine ⟨h1,fun p hp=>?_⟩;rcases h2 p hp with h3 | h3
      · rcases List.mem_cons.mp h3 with rfl | h3
        · exact .inr (Nat.le_refl _)
        · exact .inl h3
      · exact .inr (Nat.le_of_succ_le h3)
    · exact Cz r n acc h hl
theorem FK {cm:Str→Option Value}{cs:List (Str×Addr)}{cells:List (Addr×Obj)}(h:CellsAre cm cs cells):cells.map (·.1)=cs.map (·.2):=by
  induction h with
  | nil=>rfl
  | cons _ _ ih=>rw [List.map_cons,List.map_cons,ih]
theorem GN {cm:Str→Option Value}{x:Str}{a:Addr}{cs:List (Str×Addr)}{cells:List (Addr×Obj)}(h:CellsAre cm cs cells)(e:cs.lookup x=some a):∃ o,(a,o)∈cells∧o.data=.cell (cm x):=by
  induction h with
  | nil=>cases e
  | @cons n _ _ _ _ h r ih =>
    rw [List.lookup_cons] at e;cases hx:x == n with
    | true =>
      rw [hx] at e;obtain rfl:=Option.some.inj e;obtain rfl:=beq_iff_eq.mp hx;exact ⟨_,.head _,h⟩
    | false =>
      rw [hx] at e;exact (ih e).elim fun o h=>⟨o,.tail _ h.1,h.2⟩
theorem Sp {kind:Str→Option NameKind}{x:Str}{v:Value}(hk:kind x=some .local):∀ {ps:List Str} {vals:List Value} {m:Str→Option Value} {i:Nat},ps.Nodup→ps.length=vals.length →
    ((ps[i]? = some x∧vals[i]? = some v)∨(x ∉ ps∧m x=some v))→bindL kind (ps.zip vals) m x=some v:=by
  intro ps
  induction ps with
  | nil =>
    intro vals m i _ hl h;cases vals with
    | cons=>cases hl
    | nil=>exact h.elim (fun h=>by simp at h) (·.2)
  | cons p ps ih =>
    intro vals m i hn hl h;cases vals with
    | nil=>cases hl
    | cons u vals =>
        rw [List.nodup_cons] at hn;show bindL kind (ps.zip vals) (if kind p=some .local then fun y=>if y=p then some u else m y else m) x=some v;have hl':ps.length=vals.length:=by simpa using hl
        rcases h with ⟨h1,h2⟩ | ⟨h1,h2⟩
        · cases i with
          | zero =>
            simp at h1 h2;subst h1 h2;exact ih (i:=0) hn.2 hl' (.inr ⟨hn.1,by rw [if_pos hk];simp⟩)
          | succ i=>exact ih (i:=i) hn.2 hl' (.inl ⟨by simpa using h1,by simpa using h2⟩)
        · rw [List.mem_cons,not_or] at h1
          refine ih (i:=0) hn.2 hl' (.inr ⟨h1.2,?_⟩);split
          · simp only [if_neg h1.1];exact h2
          · exact h2
theorem So {kind:Str→Option NameKind}{x:Str}{v:Value}(hk:kind x≠some .local):∀ {ps:List Str} {vals:List Value} {m:Str→Option Value} {i:Nat},ps.Nodup→ps.length=vals.length →
    ((ps[i]? = some x∧vals[i]? = some v)∨(x ∉ ps∧m x=some v))→bindC kind (ps.zip vals) m x=some v:=by
  intro ps
  induction ps with
  | nil =>
    intro vals m i _ hl h;cases vals with
    | cons=>cases hl
    | nil=>exact h.elim (fun h=>by simp at h) (·.2)
  | cons p ps ih =>
    intro vals m i hn hl h;cases vals with
    | nil=>cases hl
    | cons u vals =>
        rw [List.nodup_cons] at hn;show bindC kind (ps.zip vals) (if kind p=some .local then m else fun y=>if y=p then some u else m y) x=some v;have hl':ps.length=vals.length:=by simpa using hl
        rcases h with ⟨h1,h2⟩ | ⟨h1,h2⟩
        · cases i with
          | zero =>
            simp at h1 h2;subst h1 h2;exact ih (i:=0) hn.2 hl' (.inr ⟨hn.1,by rw [if_neg hk];simp⟩)
          | succ i=>exact ih (i:=i) hn.2 hl' (.inl ⟨by simpa using h1,by simpa using h2⟩)
        · rw [List.mem_cons,not_or] at h1
          refine ih (i:=0) hn.2 hl' (.inr ⟨h1.2,?_⟩);split
          · exact h2
          · simp only [if_neg h1.1];exact h2
theorem Kh {a b d e:Led}(h:((a++(b++d)).map (·.1)).Nodup)(he:(e.map (·.1)).Nodup)(hl:∀ q∈e,∀ p∈a++(b++d),p.1 < q.1):((a++(b++(e++d))).map (·.1)).Nodup:=by
  have key:((e++(a++(b++d))).map (·.1)).Nodup:=by
    rw [List.map_append,List.nodup_append];refine ⟨he,h,?_⟩;intro x hx y hy z;obtain ⟨q,hq,rfl⟩:=List.mem_map.mp hx;obtain ⟨p,hp,rfl⟩:=List.mem_map.mp hy;have:=hl q hq p hp;rw [z] at this;exact Nat.lt_irrefl _ this
  refine (List.Perm.nodup_iff (List.Perm.map _ ?_)).mp key
  calc (e++(a++(b++d))).Perm ((a++b)++(e++d)):=by
        rw [← List.append_assoc a b d,← List.append_assoc e,← List.append_assoc (a++b)];exact List.Perm.append_right _ List.perm_append_comm
    _=a++(b++(e++d)):=by rw [List.append_assoc]
noncomputable def AY (G:Gl)(lv:Nat)(f:Value)(t:CS):Prop:=
  ∀ (A:Around) (h₀:Heap) (L:Addr) (m:Str→Option Value) (fx:Led) (σ:Sto) (c:Cs) (s:Shared) (args:List AV) (vals:List Value) (Q:AV→Sto→Prop) (R:Result→Shared→Prop),
    Pv G lv A h₀ L m fx σ c s→Rl G.hT c args vals→t args σ Q→Kn G h₀ L m fx c s Rc Q (fun v s'=>R (.ok (.ret v)) s')→codeAny (model G.prog G.w) A (.call f ⟨vals,[]⟩) R s
theorem AY.v {G:Gl}{lv:Nat}{f:Value}{t:CS}(h:AY G lv f t):Ao G lv f t:=
  fun A h₀ L m fx σ c s args vals Q Qc E P ra q k=>wpAny_call (h A h₀ L m fx σ c s args vals Q _ P ra q k)
theorem Tw {scope:Scope}{ps:List Str}{vals:List Value}(hkd:(ps.all fun y=>scope.names.lookup y == some .local || scope.names.lookup y == some .cell)=true):((ps.zip vals).all fun y=>scope.names.lookup y.1 == some .local || scope.names.lookup y.1 == some .cell)=true:=by
  rw [List.all_eq_true];intro y hy;exact List.all_eq_true.mp hkd y.1 (List.of_mem_zip hy).1
section
variable {qual:Str}{scope:Scope}{L':Addr}{f:Addr}{cdv:Value}{ps vs:List Str}{vals:List Value}{cells:Led}
theorem YB {m:Str→Option Value}(Y:CellsAre m (cellsFrom (L' + 1) scope.names []) cells):(cells.map (·.1)).Nodup:=by rw [FK Y];exact (Cz scope.names (L' + 1) [] (by simp) (by simp)).1
theorem A3E {m:Str→Option Value}(Y:CellsAre m (cellsFrom (L' + 1) scope.names []) cells){l:Led}(hlt:∀ p∈l,p.1 < L'):∀ q∈cells,∀ p∈l,p.1 < q.1:=by
  intro q hq p hp;have h1:q.1∈cells.map (·.1):=List.mem_map_of_mem hq;rw [FK Y] at h1;obtain ⟨z,hz,e⟩:=List.mem_map.mp h1;rcases (Cz scope.names (L' + 1) [] (by simp) (by simp)).2 z hz with h2 | h2
  · cases h2
  · rw [← e];exact Nat.lt_of_lt_of_le (hlt p hp) (Nat.le_of_succ_le h2)
theorem Tv {m:Str→Option Value}(Y:CellsAre m (cellsFrom (L' + 1) scope.names []) cells):∀ x,(envOfC qual scope L' f cdv).kindOf x=some .cell→∃ a o v₀,(envOfC qual scope L' f cdv).cells.lookup x=some a∧(a,o)∈cells∧o.data=.cell v₀:=by
  intro x hx;obtain ⟨a,ha⟩:=Option.isSome_iff_exists.mp (cellsFrom_some (x:=x) scope.names (L' + 1) [] (.inl hx));obtain ⟨o,h4,h5⟩:=GN Y ha;exact ⟨a,o,_,ha,h4,h5⟩
theorem Tx {hT:Heap}{c:Cs}{args:List AV}{fx:Led}(hkd:(ps.all fun y=>scope.names.lookup y == some .local || scope.names.lookup y == some .cell)=true)(hpn:ps.Nodup)(ra:B1 (Rc hT c) args vals)(hvl:vals.length=ps.length)(Y:CellsAre (bindC (envOfC qual scope L' f cdv).kindOf (ps.zip vals) fun ξ=>none) (cellsFrom (L' + 1) scope.names []) cells) :
    NR hT (envOfC qual scope L' f cdv) (ps++vs) (args.map some++List.replicate vs.length none) L' (bindL (envOfC qual scope L' f cdv).kindOf (ps.zip vals) fun ξ=>none) (cells++fx) c:=by
  intro i av e;obtain ⟨x,v,h1,h2,h3⟩:∃ x v,ps[i]? = some x∧vals[i]? = some v∧Rc hT c av v:=by
    by_cases hi:i < (args.map some).length
    · rw [List.getElem?_append_left hi,List.getElem?_map,Option.map_eq_some_iff] at e
      obtain ⟨b,e,h2⟩:=e;cases h2;obtain ⟨v,h3,h4⟩:=ra.get e;have hi':i < ps.length:=by rw [List.length_map,ra.length,hvl] at hi;exact hi
      exact ⟨ps[i],v,by simp [hi'],h3,h4⟩
    · rw [List.getElem?_append_right (Nat.not_lt.mp hi),List.getElem?_replicate] at e
      split at e <;> cases e
  have hi:i < ps.length:=by rw [List.getElem?_eq_some_iff] at h1;exact h1.1
  refine ⟨x,v,by rw [List.getElem?_append_left hi];exact h1,h3,?_⟩;have hx:=List.all_eq_true.mp hkd x (List.mem_of_getElem? h1);rw [Bool.or_eq_true,beq_iff_eq,beq_iff_eq] at hx;rcases hx with hx | hx
  · have hk':=hx
    exact .loc hx rfl (Sp hx hpn hvl.symm (.inl ⟨h1,h2⟩))
  · have hk':(envOfC qual scope L' f cdv).kindOf x=some .cell:=hx
    have hsome:=cellsFrom_some (x:=x) scope.names (L' + 1) [] (.inl hx);obtain ⟨a,ha⟩:=Option.isSome_iff_exists.mp hsome;obtain ⟨o,h4,h5⟩:=GN Y ha;refine .cel hk' (.inl rfl) ha (List.mem_append.mpr (.inl h4)) ?_;rw [h5,So (by rw [hk'];simp) hpn hvl.symm (.inl ⟨h1,h2⟩)]
end
theorem Vn {hT h₀ g h h₁:Heap}{L L':Addr}{m m₁ m₂:Str→Option Value}{σ:Sto}{c:Cs}{fx cells:Led}{scope:Scope}(P:Rep hT h₀ L h m σ c fx)(F':Fr g L' h₁ m₁)(N':News g L' h₁ (cells++(c.ml++(c.pl++fx))))(Y:CellsAre m₂ (cellsFrom (L' + 1) scope.names []) cells)(hlt:∀ p∈c.ml++(c.pl++fx),p.1 < L'):Rep hT g L' h₁ m₁ σ c (cells++fx):=by
  refine ⟨F',Cn N' fun p hp=>?_,Kh P.nd (YB Y) (A3E Y hlt),P.so⟩;simp only [List.mem_append] at hp ⊢;rcases hp with hp | hp | hp | hp <;> simp [hp]
theorem SF {hT h₀ g h':Heap}{L L':Addr}{m m':Str→Option Value}{σ':Sto}{c':Cs}{fx cl':Led}{R:Result→Shared→Prop}{s:Shared}{tk':Nat}{v:Value}(r:Rep hT g L' h' m' σ' c' (cl'++fx))(k:Rep hT h₀ L h' m σ' c' fx→R (.ok (.ret v)) {s with heap:=h',toks:=tk'}):LeaveK h₀ L m g R v {s with heap:=h',toks:=tk'}:=
  leaveK_ r.fr (Cn r.nw fun p hp=>by
    simp only [List.mem_append] at hp ⊢;rcases hp with hp | hp | hp <;> simp [hp]) fun F₂ N₂=>k ⟨F₂,N₂,List.Nodup.sublist (List.Sublist.map _ (List.Sublist.append_left (List.Sublist.append_left (List.sublist_append_right _ _) _) _)) r.nd,r.so⟩
set_option tactic.hygienic true in
theorem C_def {G:Gl}{lv:Nat}{f:Addr}{name qual:Str}{params:Arguments}{body:List Stmt}{scope:Scope}{dV kV doc pm cdv ct oc:Value}{an od:Option Addr}{osl:Array (Option Value)}{t:TS}(ps vs:List Str)(hlv:0 < lv)
    (ho:G.K.lookup f=some ⟨oc,od,.func (fnOf name qual params body scope dV kV doc pm an cdv ct),osl⟩)(hcd:codeIn G.K cdv qual=true)
    (hbind:∀ vals:List Value,vals.length=ps.length→∀ h:Heap,G.K.In h→∀ s:Shared,s.heap=h→BindsTo s (fnOf name qual params body scope dV kV doc pm an cdv ct) ⟨vals,[]⟩ (ps.zip vals))
    (hkd:(ps.all fun y=>scope.names.lookup y == some .local || scope.names.lookup y == some .cell)=true)(hcn:((cellsFrom 0 scope.names []).map (·.1)).Nodup)(hpn:ps.Nodup)
    (hb:∀ L',BE G (lv - 1) (envOfC qual scope L' f cdv) (ps++vs) body t)
    (hk:scope.kind=.function)(hco:scope.isCoroutine=false)(hgen:scope.isGenerator=false):AY G lv (.ref f) (AT ps.length vs.length t):=by
  intro A h₀ L m fx σ c s args vals Q R P ra q k;obtain ⟨hlen,q⟩:=q;obtain ⟨A₀,base,outer,fe,hB,hf,ho'⟩:=P.cx.fe;have hvl:vals.length=ps.length:=ra.length.symm.trans hlen;refine callX_cells hB P.F P.N P.cx.T.nolimit hf ho'.frame ho'.kind (P.X _ _ ho) rfl (codeRec_of P.X hcd) (by have:=P.cx.dep;omega) (hbind vals hvl _ P.X s rfl) (kindsX (Tw hkd)) hcn ?_ hco hgen hk;intro g L' h₁ tk cells FG F' N' Y B' st hlt;have Cx':Cx G (lv - 1) (A.deeper (envOfC qual scope L' f cdv)) g L':=by
    refine ⟨fun b o e=>st b o (P.cx.st b o e),P.cx.hh,?_,?_,A,base,fe::outer,envOfC qual scope L' f cdv,B',Around.frames_deeper hf,rfl,hk,hgen,hco,rfl,rfl⟩
    · have:=P.cx.dep
      show A.depth+1+3 * (lv - 1)+110 < recursionLimit;omega
    · have:=P.cx.un
      show A.units+3+100 * (lv - 1)+100 < cLine;omega
  refine hb L' (A.deeper (envOfC qual scope L' f cdv)) g L' _ cells fx _ σ c {s with heap:=h₁,toks:=tk} _ _ _ ⟨⟨Cx',Vn P.rep F' N' Y hlt,Tx hkd hpn ra hvl Y⟩,rfl,Tv Y⟩ q ?_
  intro fl ρ' σ' m' cl' c' h' tk' fw q' P' l r;have fin:∀ a v,Q a σ'→Rc G.hT c' a v→LeaveK h₀ L m g R v {s with heap:=h',toks:=tk'}:=fun a v qa rv=>SF (s:=s) (tk':=tk') P'.pl.rep fun r=>k a σ' v h' tk' c' qa r l rv
  cases r with
  | next=>exact fin _ _ q' .none
  | brk=>exact q'.elim
  | cont=>exact q'.elim
  | ret r=>exact fin _ _ q' r
noncomputable def Nl:List String:=["bytearray.__contains__","bytearray.__mod__","bytearray.__rmod__","_struct.pack_into.held","bytearray.find.held"]++Builtin.Bytes.decodersThatHold
noncomputable def okC:Code→Bool
  | .builtin id _=>!Nl.contains id
  | _=>true
noncomputable def A4z (l:List (Code×Pos)):Prop:=∀ q∈l,okC q.1=true
noncomputable def wpR {α:Type}(M:Model)(A:Around)(t:Sem α)(Q:α→Shared→Prop)(s:Shared):Prop:=
  ∀ Γ p,Γ.In A→okC Γ.code=true→A4z Γ.below→Sem.wp M Γ t (fun a ξ s'=>Q a s') (fun ξ ξ ξ=>False) p s
noncomputable def Fx (M:Model)(A:Around)(c:Code)(R:Flow→Shared→Prop)(s:Shared):Prop:=
  ∀ Γ p,Γ.code=c→Γ.Below A→A4z Γ.below→wpCode M Γ (fun r s'=>match r with | .ok f=>R f s' | .error _=>False) p s
section
variable {α β:Type}{M:Model}{A:Around}{s:Shared}
theorem Cf {t:Sem α}{Q:α→Shared→Prop}(h:wpAny M A t Q (fun ξ ξ=>False) s):wpR M A t Q s:=fun Γ p hΓ ξ ξ=>h Γ p hΓ
theorem Df {t:Sem α}{Q Q':α→Shared→Prop}(h:wpR M A t Q s)(k:∀ a s',Q a s'→Q' a s'):wpR M A t Q' s:=
  fun Γ p hΓ h1 h2=>Sem.wp_mono M Γ t (fun a ξ s'=>k a s') (fun ξ ξ ξ x=>x) p s (h Γ p hΓ h1 h2)
theorem AA {m:Sem α}{f:α→Sem β}{Q:β→Shared→Prop}(h:wpR M A m (fun a s'=>wpR M A (f a) Q s') s):wpR M A (m >>= f) Q s:=fun Γ p hΓ h1 h2=>by
  rw [Sem.wp_bind'];exact Sem.wp_mono M Γ m (fun a p' s' h'=>h' Γ p' hΓ h1 h2) (fun ξ ξ ξ x=>x) p s (h Γ p hΓ h1 h2)
theorem Bd {a:α}{Q:α→Shared→Prop}(h:Q a s):wpR M A (pure a) Q s:=fun ξ ξ ξ ξ ξ=>h
theorem Cu {vs:List Value}{m:Sem α}{Q:α→Shared→Prop}(h:wpR M A m Q s):wpR M A (holding vs m) Q s:=fun Γ p hΓ h1 h2=>by rw [Sem.wp_holding];exact h Γ p hΓ h1 h2
theorem A5r {vs:List Value}{m:Sem α}{Q:α→Shared→Prop}(h:wpR M A m Q s):wpR M A (m.keep vs) Q s:=fun Γ p hΓ h1 h2=>by rw [Sem.wp_keep];exact h Γ p hΓ h1 h2
theorem Ip {m:Sem α}{k:Value→Sem Unit}{Q:α→Shared→Prop}(h:wpR M A m Q s):wpR M A (m.onRaise k) Q s:=fun Γ p hΓ h1 h2=>by
  rw [Sem.wp_onRaise];exact Sem.wp_mono M Γ m (fun ξ ξ ξ x=>x) (fun ξ ξ ξ x=>x.elim) p s (h Γ p hΓ h1 h2)
theorem Ci {pos:Pos}{Q:Unit→Shared→Prop}(h:Q () s):wpR M A (standAt pos) Q s:=fun ξ ξ ξ ξ ξ=>h
theorem Yt {Q:Unit→Shared→Prop}(h:Q () s):wpR M A point Q s:=fun ξ ξ ξ ξ ξ=>h
theorem R0 {t:Sem α}{a:α}{Q:α→Shared→Prop}(e:t=pure a)(h:Q a s):wpR M A t Q s:=e ▸ Bd h
theorem Sj {vs:List Value}{m:Sem Value}{Q:Value→Shared→Prop}(h:wpR M A m Q s):wpR M A (operate vs m) Q s:=fun Γ p hΓ h1 h2=>by rw [Sem.wp_operate];exact h Γ p hΓ h1 h2
theorem R_run {c:Code}{hd:Option Value}{Q:Flow→Shared→Prop}(h:Fx M (A.mark hd) c Q s)(hnb:hd≠some byPass:=by intro x;cases x):wpR M A (run c hd) Q s:=fun Γ p hΓ h1 h2=>by
  rw [Sem.wp_run];refine wpCode_mono (fun r s' x=>?_) (h _ p rfl (hΓ.enter c hd p hnb) ?_)
  · cases r <;> exact x
  · intro q hq
    rcases List.mem_cons.mp hq with rfl | hq
    · exact h1
    · exact h2 q hq
theorem WS {c:Code}{Q:Value→Shared→Prop}(h:Fx M A c (fun f s'=>match f with | .ret v=>Q v s' | _=>False) s):wpR M A (runValue c) Q s:=fun Γ p hΓ h1 h2=>by
  rw [Sem.wp_runValue];refine wpCode_mono (fun r s' x=>?_) (h _ p rfl (hΓ.enter c none p (by intro x;cases x)) ?_)
  · cases r with
    | error e=>exact x
    | ok f=>cases f <;> exact x
  · intro q hq
    rcases List.mem_cons.mp hq with rfl | hq
    · exact h1
    · exact h2 q hq
theorem LS {f:Value}{pos:List Value}{kw:List (Str×Value)}{Q:Value→Shared→Prop}(h:Fx M A (.call f ⟨pos,kw⟩) (fun r s'=>match r with | .ret v=>Q v s' | _=>False) s):wpR M A (call f pos kw) Q s:=WS h
theorem Zu {c:Code}{R:Flow→Shared→Prop}(h:codeAny M A c (fun r s'=>match r with | .ok f=>R f s' | .error _=>False) s):Fx M A c R s:=fun Γ p hc hΓ ξ=>h Γ p hc hΓ
noncomputable def A2V (M:Model)(A:Around)(R:Flow→Shared→Prop)(fin:Fin)(s':Shared):Prop:=match fin with
  | .done f=>R f s'
  | .again c'=>c'.quiet=true∧Fx M A c' R s'
theorem DT {c:Code}{R:Flow→Shared→Prop}(ok:okC c=true)(h:wpR M (A.under c) (M.den c) (A2V M A R) s):Fx M A c R s:=fun Γ p hc hΓ h2=>by
  rw [wpCode_iff_wp,hc];refine Sem.wp_mono M Γ _ (fun fin p' s' h'=>?_) (fun ξ ξ ξ h'=>h') p s (h Γ p (hc ▸ hΓ.in) (hc ▸ ok) h2);cases fin with
  | done f=>exact h'
  | again c'=>exact ⟨h'.1,h'.2 (Γ.goto c') p' rfl (hΓ.goto c') h2⟩
theorem Xd {c:Code}{R:Flow→Shared→Prop}(ok:okC c=true)(hq:c.quiet=true)(I:Nat→Shared→Prop)
    (turn:∀ n s,I n s→wpR M (A.under c) (M.den c) (fun fin s'=>match fin with
      | .done f=>R f s'
      | .again c'=>(c'=c∧∃ k,k < n∧I k s')∨(c'.quiet=true∧Fx M A c' R s')) s) (n:Nat) (h:I n s):Fx M A c R s:=by
  induction n using Nat.strongRecOn generalizing s with
  | ind n ih =>
    refine DT ok (Df (turn n s h) fun fin s' hf=>?_);cases fin with
    | done f=>exact hf
    | again c' =>
      rcases hf with ⟨rfl,k,hk,hI⟩ | hf
      · exact ⟨hq,ih k hk hI⟩
      · exact hf
end
section
variable {prog:Program}{w:World}{A:Around}{s:Shared}
theorem PL {body:List Stmt}{env:Env}{R:Flow→Shared→Prop}(h:wpR (model prog w) (A.deeper env) (execs body env) (fun f s'=>R (.ret (match f with | .ret v=>v | _=>.none)) s') s):Fx (model prog w) A (.func body env) R s:=by
  refine DT rfl ?_;show wpR _ (A.deeper env) (do point;match ← (execs body env).onRaise (leaving env) with | .ret v=>ret v | _=>ret .none) _ s;refine AA (Yt (AA (Ip (Df h fun f s' h'=>?_))));cases f <;> exact Bd h'
theorem Vq {stmts:List Stmt}{env:Env}{R:Flow→Shared→Prop}(h:wpR (model prog w) A (execs stmts env) R s):Fx (model prog w) A (.block stmts env) R s:=by
  refine DT rfl ?_;show wpR _ _ (do return Fin.done (← (execs stmts env).onRaise (fun x=>do noteFrame x env;theTreesLotGoes x))) _ s;exact AA (Ip (Df h fun f s' h'=>Bd h'))
theorem Vr {a:Addr}{args:Args}{o:Obj}{fd:FuncData}{body:List Stmt}{R:Flow→Shared→Prop}(hroom:A.depth < recursionLimit)(ho:s.heap.get? a=some o)(hd':o.data=.func fd)
    (hco:fd.scope.isCoroutine=false)(hgen:fd.scope.isGenerator=false)(hbody:fd.body=.stmts body)(hcd:s.heap.CodeRec fd.code fd.qualname)
    (h:wpAny (model prog w) A.in1 (bindArgs fd args) (fun binds s₁ =>
      wpAny (model prog w) A.in1 (newFunctionEnv fd.scope fd.globals fd.closure binds (fd.qualname ++ ".<locals>.") (some a) fd.code none fd.builtins)
        (fun env s₂=>s₂.heap.NoLimit∧Fx (model prog w) A (.func body env) R s₂) (fun ξ ξ=>False) s₁) (fun ξ ξ=>False) s):Fx (model prog w) A (.call (.ref a) args) R s:=by
  refine DT rfl ?_;show wpR _ A.in1 (callAny (.ref a) args) _ s;simp only [callAny];obtain ⟨c,oc,vs,tq,hc,hoc,hdc,hq⟩:=hcd;refine AA (Cf (wpAny_load ho ?_));simp only [hd',callFunction,hco,hgen,hbody,hc];rw [hc] at h;refine AA (Cf (wpAny_field hoc hdc hq ?_));refine AA (Bd (AA (Cf (wpAny_mono h (fun binds s₁ h₁=>AA (Cf (wpAny_mono h₁ (fun env s₂ h₂=>?_) fun ξ ξ x=>x))) fun ξ ξ x=>x))));exact AA (Cf (wpAny_enterFrame h₂.1 hroom (Bd ⟨rfl,h₂.2⟩)))
end
noncomputable def Nh {α:Type}(G:Gl)(lv:Nat)(env:Env)(vars:List Str)(tree:Sem α)(β:Type)(R:Heap→Cs→β→α→Prop)(t:Lo→Sto→(β→Sto→Prop)→Prop):Prop:=
  ∀ (A:Around) (h₀:Heap) (L:Addr) (m:Str→Option Value) (fx:Led) (ρ:Lo) (σ:Sto) (c:Cs) (s:Shared) (Q:β→Sto→Prop) (Qc:α→Shared→Prop),
    Pl G lv env vars A h₀ L m fx ρ σ c s→t ρ σ Q→Kn G h₀ L m fx c s R Q Qc→wpR (model G.prog G.w) A tree Qc s
theorem FZ.r {α:Type}{G:Gl}{lv:Nat}{env:Env}{vars:List Str}{tree:Sem α}{β:Type}{R:Heap→Cs→β→α→Prop}{t:Lo→Sto→(β→Sto→Prop)→Prop}(h:FZ G lv env vars tree β R t):Nh G lv env vars tree β R t:=
  fun A h₀ L m fx ρ σ c s Q Qc P q k=>Cf (h A h₀ L m fx ρ σ c s Q Qc _ P q k)
noncomputable abbrev RE (G:Gl) (lv:Nat) (env:Env) (vars:List Str) (e:Expr) (t:TE):Prop:=Nh G lv env vars (eval e env) AV Rc t
noncomputable abbrev RT (G:Gl) (lv:Nat) (env:Env) (vars:List Str) (e:Expr) (t:TT):Prop:=Nh G lv env vars (isTrue e env (eval e env)) Bool Rb t
noncomputable abbrev REs (G:Gl) (lv:Nat) (env:Env) (vars:List Str) (es:List Expr) (t:TEs):Prop:=∀ pos:Pos,Nh G lv env vars (spliced (backTo pos (starEach es env))) (List AV) Rl t
noncomputable def OS {α:Type}(G:Gl)(lv:Nat)(env:Env)(vars:List Str)(tree:Sem α)(R:Heap→Cs→Fl→α→Prop)(t:TS):Prop:=
  ∀ (A:Around) (h₀:Heap) (L:Addr) (m:Str→Option Value) (cl fx:Led) (ρ:Lo) (σ:Sto) (c:Cs) (s:Shared) (Q:Fl→Lo→Sto→Prop) (Qc:α→Shared→Prop),
    PlS G lv env vars A h₀ L m cl fx ρ σ c s→t ρ σ Q→KS G lv env vars A h₀ L fx c s R Q Qc→wpR (model G.prog G.w) A tree Qc s
theorem Ni.r {α:Type}{G:Gl}{lv:Nat}{env:Env}{vars:List Str}{tree:Sem α}{R:Heap→Cs→Fl→α→Prop}{t:TS}(h:Ni G lv env vars tree R t):OS G lv env vars tree R t:=
  fun A h₀ L m cl fx ρ σ c s Q Qc P q k=>Cf (h A h₀ L m cl fx ρ σ c s Q Qc _ P q k)
noncomputable abbrev RS (G:Gl) (lv:Nat) (env:Env) (vars:List Str) (st:Stmt) (t:TS):Prop:=OS G lv env vars (exec st env) FlR t
noncomputable abbrev RBk (G:Gl) (lv:Nat) (env:Env) (vars:List Str) (b:List Stmt) (t:TS):Prop:=OS G lv env vars (execs b env) FlR t
noncomputable def RV (G:Gl)(lv:Nat)(f:Value)(t:CS):Prop:=
  ∀ (A:Around) (h₀:Heap) (L:Addr) (m:Str→Option Value) (fx:Led) (σ:Sto) (c:Cs) (s:Shared) (args:List AV) (vals:List Value) (Q:AV→Sto→Prop) (Qc:Value→Shared→Prop),
    Pv G lv A h₀ L m fx σ c s→Rl G.hT c args vals→t args σ Q→Kn G h₀ L m fx c s Rc Q Qc→wpR (model G.prog G.w) A (call f vals) Qc s
theorem Ao.r {G:Gl}{lv:Nat}{f:Value}{t:CS}(h:Ao G lv f t):RV G lv f t:=
  fun A h₀ L m fx σ c s args vals Q Qc P ra q k=>Cf (h A h₀ L m fx σ c s args vals Q Qc _ P ra q k)
section
variable {G:Gl}{lv:Nat}{env:Env}{vars:List Str}
set_option tactic.hygienic true in
theorem A26 {l r:Expr}{op:Operator}{pos:Pos}{ta tb:TE}{f:F2}(hl:RE G lv env vars l ta)(hr:RE G lv env vars r tb)(ho:Op2 G lv (binaryOp op) f):RE G lv env vars (.BinOp l op r pos) (Aq f ta tb):=by
  intro A h₀ L m fx ρ σ c s Q Qc P q k;rw [eval_BinOp];refine AA (hl A h₀ L m fx ρ σ c s _ _ P q fun a σ₁ va h₁ tk₁ c₁ q₁ r₁ l₁ x₁=>?_);refine AA (Cu (hr A h₀ L m fx ρ σ₁ c₁ _ _ _ (P.next r₁ l₁) q₁ fun b σ₂ vb h₂ tk₂ c₂ q₂ r₂ l₂ x₂=>?_));refine AA (Ci (Sj (Cf (ho A h₀ L m fx σ₂ c₂ _ a b va vb Q Qc _ ⟨P.cx,r₂⟩ (Rc.mono l₂ _ _ x₁) x₂ q₂ (Kn.after (Kn.after k l₁) l₂)))))
theorem R_nil:REs G lv env vars [] Ap:=fun pos=>FZ.r (Yu pos)
set_option tactic.hygienic true in
theorem A5p {e:Expr}{es:List Expr}{ta:TE}{tb:TEs}(ha:RE G lv env vars e ta)(hb:REs G lv env vars es tb)(he:starEach (e::es) env=(false,eval e env)::starEach es env):REs G lv env vars (e::es) (Ac ta tb):=by
  intro pos A h₀ L m fx ρ σ c s Q Qc P q k;rw [he];show wpR _ _ (spliced ((false,eval e env)::backTo pos (starEach es env))) _ s;rw [spliced];refine AA (ha A h₀ L m fx ρ σ c s _ _ P q fun a σ₁ va h₁ tk₁ c₁ q₁ r₁ l₁ x₁=>?_);simp only [Bool.false_eq_true,if_false];refine AA (Bd (AA (Cu (Df (hb pos A h₀ L m fx ρ σ₁ c₁ _ _ (fun vs s'=>Qc (va::vs) s') (P.next r₁ l₁) q₁ fun l σ₂ vs h₂ tk₂ c₂ q₂ r₂ l₂ x₂=>k _ _ _ h₂ tk₂ c₂ q₂ r₂ (l₁.trans l₂) (.cons (Rc.mono l₂ _ _ x₁) x₂)) fun vs s' h'=>Bd h'))))
end
theorem Xr {M:Model}{A:Around}{s:Shared}{f:Value}{trees:List (Bool×Sem Value)}{Q:Args→Shared→Prop}(hp:trees.any (·.1)=false)
    (h:wpR M A (spliced trees) (fun vs s'=>Q ⟨vs,[]⟩ s') s):wpR M A (evalArgs f true trees []) Q s:=by
  have tail:∀ {s':Shared} {vs:List Value},Q ⟨vs,[]⟩ s'→wpR M A (evalAll ([]:List (Sem Value)) >>= fun x=>pure (⟨vs,([]:List Str).zip x⟩:Args)) Q s':=fun h'=>AA (Bd (Bd h'));cases trees with
  | nil =>
    unfold evalArgs;show wpR M A (spliced [] >>= _) Q s;refine AA (Df h fun vs s' h'=>?_);refine AA (Bd (Cu ?_));exact AA (Bd (AA (Bd (Bd h'))))
  | cons t r =>
    obtain (⟨b,x⟩):=t;cases b with
    | true=>cases hp
    | false =>
      unfold evalArgs;show wpR M A (spliced ((false,x)::r) >>= _) Q s;refine AA (Df h fun vs s' h'=>?_);refine AA (Bd (Cu ?_));exact AA (Bd (AA (Bd (Bd h'))))
theorem Xc {G:Gl}{A:Around}{s:Shared}{pos:Pos}{f:Value}{first:List Value}{trees:List (Bool×Sem Value)}{Q:Value→Shared→Prop}(hp:trees.any (·.1)=false)(hk:keeps G.K f=true)
    (h:wpR (model G.prog G.w) A (spliced trees) (fun vs s'=>G.K.In s'.heap∧wpR (model G.prog G.w) A (call f (first++vs)) Q s') s):wpR (model G.prog G.w) A (callWith pos f first trees []) Q s:=by
  unfold callWith;refine AA (Cu (Xr hp (Df h fun vs s₁ h₁=>AA (Ci ?_))));obtain ⟨X,h₁⟩:=h₁;obtain ⟨k,hk',Lk⟩:=Qe (M:=model G.prog G.w) hk _ X;simp only [hp,List.any_nil,Bool.or_false];refine AA (Cf (Lk.here ?_));have tail:∀ {t:Sem Value},wpR (model G.prog G.w) A t Q s₁→wpR (model G.prog G.w) A (t >>= fun r=>holding [r] point >>= fun ξ=>pure r) Q s₁:=
    fun ht=>AA (Df ht fun r s₂ hr=>AA (Cu (Yt (Bd hr))))
  have marked (mk:Value):wpR (model G.prog G.w) A (callMarked mk f (first++vs) []) Q s₁:=by unfold callMarked;exact A5r h₁
  rcases hk' with rfl | rfl | rfl <;> dsimp only <;> first | exact tail h₁ | (split <;> first | exact tail h₁ | exact tail (marked _))
noncomputable abbrev MT:=AV→Sto→Option CS
noncomputable def Ng (G:Gl)(lv:Nat)(name:Str)(mt:MT):Prop:=
  ∀ (A:Around) (h₀:Heap) (L:Addr) (m:Str→Option Value) (fx:Led) (σ:Sto) (c:Cs) (s:Shared) (a:AV) (va:Value) (t:CS),Pv G lv A h₀ L m fx σ c s→Rc G.hT c a va→mt a σ = some t →
    ∃ f,keeps G.K f=true∧Ao G lv f t∧∀ (pl:Sem Bool) (Q:Value×List Value→Shared→Prop) (E:Value→Shared→Prop),Q (f,[va]) s→wpAny (model G.prog G.w) A (getMethod va name pl) Q E s
noncomputable def Sk (G:Gl)(lv:Nat)(name:Str)(mt:MT):Prop:=
  ∀ (A:Around) (h₀:Heap) (L:Addr) (m:Str→Option Value) (fx:Led) (σ:Sto) (c:Cs) (s:Shared) (a:AV) (va:Value) (t:CS),Pv G lv A h₀ L m fx σ c s→Rc G.hT c a va→mt a σ = some t →
    ∃ f,keeps G.K f=true∧RV G lv f t∧∀ (pl:Sem Bool) (Q:Value×List Value→Shared→Prop) (E:Value→Shared→Prop),Q (f,[va]) s→wpAny (model G.prog G.w) A (getMethod va name pl) Q E s
theorem Ng.r {G:Gl}{lv:Nat}{name:Str}{mt:MT}(h:Ng G lv name mt):Sk G lv name mt:=fun A h₀ L m fx σ c s a va t P ra e=>let ⟨f,h1,h2,h3⟩:=h A h₀ L m fx σ c s a va t P ra e; ⟨f,h1,h2.r,h3⟩
noncomputable def tMt (mt:MT)(to:TE)(ts:TEs):TE:=fun ρ σ Q=>to ρ σ fun a σ₁=>match mt a σ₁ with
  | some t=>ts ρ σ₁ fun l σ₂=>t (a::l) σ₂ Q
  | none=>False
noncomputable def mtU (name:Str)(T:List (Addr×CS)):MT:=fun a σ=>match ID σ a with
  | some (C,fs)=>(match fs.lookup name with
    | none=>T.lookup C
    | some _=>none)
  | none=>none
section
variable {G:Gl}{lv:Nat}{env:Env}{vars:List Str}
set_option tactic.hygienic true in
theorem Ba {name:Str}{T:List (Addr×CS)}(hm:AL G lv name T):Ng G lv name (mtU name T):=by
  intro A h₀ L m fx σ c s a va t P ra e;unfold mtU at e;split at e
  · rename_i C fs e1
    split at e
    · rename_i hn
      obtain ⟨f,f1,f2,f3⟩:=hm C t e;obtain ⟨x,dx,es,n,rfl,I,F⟩:=U6 P ra e1;have g:=U1 (name:=name) F;rw [hn] at g;unfold Ed at f1;simp only [Bool.and_eq_true,beq_iff_eq] at f1;exact ⟨.ref f,f2,f3,fun pl Q E q=>method_inst P.F P.cx.X I f1.1.1 f1.1.2 f1.2 g q⟩
    · cases e
  · cases e
noncomputable def KM (G:Gl)(lv:Nat)(name:Str)(T:List (Addr×CS)):Prop:=∀ C t,T.lookup C=some t→∃ f,Ed G.K C name f=true∧keeps G.K (.ref f)=true∧RV G lv (.ref f) t
set_option tactic.hygienic true in
theorem KM.one {name:Str}{C f:Addr}{t:CS} (h1:Ed G.K C name f=true) (h2:keeps G.K (.ref f)=true) (h3:RV G lv (.ref f) t):KM G lv name [(C,t)]:=by
  intro C' t' e;rw [List.lookup_cons] at e;split at e
  · rename_i hc
    cases e;obtain rfl:=beq_iff_eq.mp hc;exact ⟨f,h1,h2,h3⟩
  · cases e
set_option tactic.hygienic true in
theorem NI {name:Str}{T:List (Addr×CS)}(hm:KM G lv name T):Sk G lv name (mtU name T):=by
  intro A h₀ L m fx σ c s a va t P ra e;unfold mtU at e;split at e
  · rename_i C fs e1
    split at e
    · rename_i hn
      obtain ⟨f,f1,f2,f3⟩:=hm C t e;obtain ⟨x,dx,es,n,rfl,I,F⟩:=U6 P ra e1;have g:=U1 (name:=name) F;rw [hn] at g;unfold Ed at f1;simp only [Bool.and_eq_true,beq_iff_eq] at f1;exact ⟨.ref f,f2,f3,fun pl Q E q=>method_inst P.F P.cx.X I f1.1.1 f1.1.2 f1.2 g q⟩
    · cases e
  · cases e
set_option tactic.hygienic true in
theorem S_Mt {o:Expr}{name:Str}{apos pos:Pos}{args:List Expr}{mt:MT}{to:TE}{ts:TEs}{pl:Sem Bool}(ho:Au G lv env vars o to)(hs:Bw G lv env vars args ts)(hm:Ng G lv name mt)
    (he:eval (.Call (.Attribute o name apos) args [] pos) env=(do
      let ov ← eval o env
      standAt apos.atName
      let (f,first) ← holding [ov] (getMethod ov name pl)
      callWith pos f first (backTo pos (starEach args env)) (backToKw pos (keywordEach [] env))):=by rfl) (hp:(backTo pos (starEach args env)).any (·.1)=false:=by rfl) :
    Au G lv env vars (.Call (.Attribute o name apos) args [] pos) (tMt mt to ts):=by
  intro A h₀ L m fx ρ σ c s Q Qc E P q k;refine methodCall_KW (pl:=pl) (ho A h₀ L m fx ρ σ c s _ _ E P q fun a σ₁ va h₁ tk₁ c₁ q₁ r₁ l₁ x₁=>?_) he;have P₁:=P.next (tk:=tk₁) r₁ l₁;split at q₁
  · rename_i t e
    obtain ⟨f,f1,f2,f3⟩:=hm A h₀ L m fx σ₁ c₁ _ a va t P₁.pv x₁ e;exact f3 _ _ _ (LZ f2 f1 hs hp P₁ (first:=[a]) (.cons x₁ .nil) q₁ (Kn.after k l₁))
  · exact q₁.elim
theorem Oc {f:Value}{t:CS}{pos:Pos}{args:List Expr}{ts:TEs}{A:Around}{h₀:Heap}{L:Addr}{m:Str→Option Value}{fx:Led}{ρ:Lo}{σ:Sto}{c:Cs}{s:Shared}{Q:AV→Sto→Prop}{Qc:Value→Shared→Prop}{first:List AV}{vfirst:List Value}
    (hv:RV G lv f t)(hk:keeps G.K f=true)(hs:REs G lv env vars args ts)(hp:(backTo pos (starEach args env)).any (·.1)=false)(P:Pl G lv env vars A h₀ L m fx ρ σ c s)
    (rf:Rl G.hT c first vfirst)(q:ts ρ σ fun l σ₁=>t (first++l) σ₁ Q)(k:Kn G h₀ L m fx c s Rc Q Qc):wpR (model G.prog G.w) A (callWith pos f vfirst (backTo pos (starEach args env)) []) Qc s:=by
  refine Xc hp hk (hs pos A h₀ L m fx ρ σ c s _ _ P q fun l σ₁ vs h₁ tk₁ c₁ q₁ r₁ l₁ x₁=>?_);have P₁:Pv G lv A h₀ L m fx σ₁ c₁ {s with heap:=h₁,toks:=tk₁}:=⟨P.cx,r₁⟩
  exact ⟨P₁.X,hv A h₀ L m fx σ₁ c₁ _ _ _ Q Qc P₁ ((rf.mono (Rc.mono l₁)).append x₁) q₁ (Kn.after k l₁)⟩
set_option tactic.hygienic true in
theorem R_Mt {o:Expr}{name:Str}{apos pos:Pos}{args:List Expr}{mt:MT}{to:TE}{ts:TEs}{pl:Sem Bool}(ho:RE G lv env vars o to)(hs:REs G lv env vars args ts)(hm:Sk G lv name mt)
    (he:eval (.Call (.Attribute o name apos) args [] pos) env=(do
      let ov ← eval o env
      standAt apos.atName
      let (f,first) ← holding [ov] (getMethod ov name pl)
      callWith pos f first (backTo pos (starEach args env)) (backToKw pos (keywordEach [] env))):=by rfl) (hp:(backTo pos (starEach args env)).any (·.1)=false:=by rfl) :
    RE G lv env vars (.Call (.Attribute o name apos) args [] pos) (tMt mt to ts):=by
  intro A h₀ L m fx ρ σ c s Q Qc P q k;rw [he];refine AA (ho A h₀ L m fx ρ σ c s _ _ P q fun a σ₁ va h₁ tk₁ c₁ q₁ r₁ l₁ x₁=>AA (Ci (AA (Cu (Cf ?_)))));have P₁:=P.next (tk:=tk₁) r₁ l₁;split at q₁
  · rename_i t e
    obtain ⟨f,f1,f2,f3⟩:=hm A h₀ L m fx σ₁ c₁ _ a va t P₁.pv x₁ e;exact f3 _ _ _ (Oc f2 f1 hs hp P₁ (first:=[a]) (.cons x₁ .nil) q₁ (Kn.after k l₁))
  · exact q₁.elim
set_option tactic.hygienic true in
theorem A5m {func:Expr}{f:Value}{t:CS}{args:List Expr}{pos:Pos}{ts:TEs}(hf:Au G lv env vars func (tD (.val f)))(hv:RV G lv f t)(hk:keeps G.K f=true)(hs:REs G lv env vars args ts)
    (he:eval (.Call func args [] pos) env=(do callWith pos (← eval func env) [] (backTo pos (starEach args env)) (backToKw pos (keywordEach [] env))))(hp:(backTo pos (starEach args env)).any (·.1)=false) :
    RE G lv env vars (.Call func args [] pos) (AB ts t):=by
  intro A h₀ L m fx ρ σ c s Q Qc P q k;rw [he];refine AA (FZ.r hf A h₀ L m fx ρ σ c s (fun a σ₁=>a=.d (.val f)∧σ₁ = σ) _ P ⟨rfl,rfl⟩ fun a σ₁ va h₁ tk₁ c₁ q₁ r₁ l₁ x₁=>?_);obtain ⟨rfl,rfl⟩:=q₁;obtain rfl:=UE x₁;exact Oc hv hk hs hp (P.next r₁ l₁) .nil q (Kn.after k l₁)
set_option tactic.hygienic true in
theorem A5o {l r:Expr}{op:CmpOp}{pos:Pos}{ta tb:TE}(hl:RE G lv env vars l ta)(hr:RE G lv env vars r tb)(hm:behindInMarks op r=false) :
    RT G lv env vars (.Compare l [op] [r] pos) (tTr (Aq (B7 op) ta tb)):=by
  intro A h₀ L m fx ρ σ c s Q Qc P q k;rw [isTrue_Compare1,markedBehindIn_of_false hm];refine AA (hl A h₀ L m fx ρ σ c s _ _ P q fun a σ₁ va h₁ tk₁ c₁ q₁ r₁ l₁ x₁=>?_);refine AA (Cu (hr A h₀ L m fx ρ σ₁ c₁ _ _ _ (P.next r₁ l₁) q₁ fun b σ₂ vb h₂ tk₂ c₂ q₂ r₂ l₂ x₂=>?_));refine AA (Ci (AA (Sj (Cf (Si op A h₀ L m fx σ₂ c₂ _ a b va vb _ _ _ ⟨P.cx,r₂⟩ (Rc.mono l₂ _ _ x₁) x₂ q₂ fun v σ₃ vv h₃ tk₃ c₃ q₃ r₃ l₃ x₃=>?_)))))
  try dsimp only at q₃
  split at q₃
  · obtain rfl:=Ff x₃
    exact Cu (Cf (wpAny_truthy_bool (k _ _ _ h₃ tk₃ c₃ q₃ r₃ (l₁.trans (l₂.trans l₃)) rfl)))
  · exact q₃.elim
set_option tactic.hygienic true in
theorem A29 {st:Stmt}{b:List Stmt}{x y:TS}(h:RS G lv env vars st x)(k:RBk G lv env vars b y):RBk G lv env vars (st::b) (As x y):=by
  intro A h₀ L m cl fx ρ σ c s Q Qc P q kk;rw [execs_cons];refine AA (h A h₀ L m cl fx ρ σ c s _ _ P q fun fl ρ' σ' m' cl' c' h' tk f q' P' l r=>?_);cases r with
  | next=>exact k A h₀ L m' cl' fx ρ' σ' c' _ Q Qc P' q' (KS.after kk l)
  | brk=>exact Bd (kk _ _ _ _ _ _ _ _ _ q' P' l .brk)
  | cont=>exact Bd (kk _ _ _ _ _ _ _ _ _ q' P' l .cont)
  | ret r=>exact Bd (kk _ _ _ _ _ _ _ _ _ q' P' l (.ret r))
set_option tactic.hygienic true in
theorem R_ret {e:Expr}{pos:Pos}{t:TE}(h:RE G lv env vars e t):RS G lv env vars (.Return (some e) pos) (Bi t):=by
  intro A h₀ L m cl fx ρ σ c s Q Qc P q k;rw [exec_Return_some];exact AA (Ci (AA (h A h₀ L m _ ρ σ c s _ _ P.pl q fun a σ₁ v h₁ tk₁ c₁ q₁ r₁ l₁ x₁=>Bd (k _ _ _ _ _ _ _ _ _ q₁ (P.next r₁ l₁) l₁ (.ret x₁)))))
set_option tactic.hygienic true in
theorem A5q {e:Expr}{pos:Pos}{t:TE}(h:RE G lv env vars e t)(hi:interactive env=false)(hs:swapsWith e none pos.line env=pure false):RS G lv env vars (.Expr e pos) (tSt t):=by
  intro A h₀ L m cl fx ρ σ c s Q Qc P q k;rw [exec_Expr env e pos hi hs];refine AA (Ci (AA (h A h₀ L m _ ρ σ c s _ _ P.pl q fun a σ₁ v h₁ tk₁ c₁ q₁ r₁ l₁ x₁=>?_)));obtain ⟨q₁,q₂⟩:=q₁;have fin:Qc .next {s with heap:=h₁,toks:=tk₁}:=k _ _ _ _ _ _ _ _ _ q₂ (P.next r₁ l₁) l₁ .next
  have hv:∀ x,v≠.ref x:=by
    intro x e;subst e;split at q₁
    · have:=KU x₁;cases this
    · obtain ⟨_,e⟩:=DY x₁;cases e
    · obtain ⟨_,e⟩:=DZ x₁;cases e
    · exact q₁
  rw [dropValue_plain hv];exact Bd fin
set_option tactic.hygienic true in
theorem R_if {test:Expr}{body orelse:List Stmt}{pos:Pos}{b:TT}{x y:TS}(hb:RT G lv env vars test b)(hx:RBk G lv env vars body x)(hy:RBk G lv env vars orelse y):RS G lv env vars (.If test body orelse pos) (Bb b x y):=by
  intro A h₀ L m cl fx ρ σ c s Q Qc P q k;rw [exec_If];refine AA (Ci (AA (hb A h₀ L m _ ρ σ c s _ _ P.pl q fun t σ₁ v h₁ tk₁ c₁ q₁ r₁ l₁ x₁=>?_)));obtain rfl:v=t:=x₁;cases v with
  | true=>exact hx A h₀ L m cl fx ρ σ₁ c₁ _ Q Qc (P.next r₁ l₁) q₁ (KS.after k l₁)
  | false=>exact hy A h₀ L m cl fx ρ σ₁ c₁ _ Q Qc (P.next r₁ l₁) q₁ (KS.after k l₁)
set_option tactic.hygienic true in
theorem R_let {i:Nat}{x:Str}{value:Expr}{p pos:Pos}{t:TE}(he:BJ env)(hx:vars[i]? = some x)(hnd:vars.Nodup)(hk:env.kindOf x=some .local)(h:RE G lv env vars value t)
    (hs:swapsWith value (some (.Name x p)) pos.line env=pure false):RS G lv env vars (.Assign [.Name x p] value pos) (BY i t):=by
  intro A h₀ L m cl fx ρ σ c s Q Qc P q k;rw [exec_Assign_Name env x p value pos hs];refine AA (Ci (AA (h A h₀ L m _ ρ σ c s _ _ P.pl q fun a σ₁ v h₁ tk₁ c₁ q₁ r₁ l₁ x₁=>AA (Ci (AA (Cf (wpAny_bindName ?_)))))));exact KN he hx hnd hk (P.next r₁ l₁) x₁ fun m' h' tk P'=>Bd (k _ _ _ _ _ _ _ _ _ q₁ P' l₁ .next)
end
theorem A6l {prog:Program}{w:World}{t:Sem Fin}{s:Shared}{R:Result→Shared→Prop}(hreg:s.asleep)
    (h:wpR (model prog w) callerA t (fun fin s'=>∃ f,fin=.done f∧(R (.ok f) s'∧leftWithCleanup s'.gens=false)) s) :
    ∃ n r s' s'',runN (denote table) prog w n s ⟨t,.builtin "claim.caller" {},default,[]⟩=.halted (outcomeOf r) s' ∧
      schedN (denote table) prog w n (.single s ⟨t,.builtin "claim.caller" {},default,[]⟩)=.halted (outcomeOf r) s'∧s'.forget=s''.forget∧R r s'':=by
  have hw:Sem.wp (model prog w) ⟨.builtin "claim.caller" {},none,none,[],none⟩ t (Sem.finPost (model prog w) ⟨.builtin "claim.caller" {},none,none,[],none⟩ fun r s'=>R r s'∧leftWithCleanup s'.gens=false)
      (fun e ξ s'=>R (.error e) s'∧leftWithCleanup s'.gens=false) default s:=by
    refine Sem.wp_mono _ _ t (fun fin p' s' h'=>?_) (fun ξ ξ ξ h'=>h'.elim) default s (h _ default caller_in (by decide +kernel) fun ξ hq=>nomatch hq);obtain ⟨f,rfl,hf⟩:=h';exact hf
  obtain ⟨n,r,s₁,s₂,hs,hn,hfo,hR⟩:=wp_halts_full (M:=model prog w) (R:=R) hreg hw;exact ⟨n,r,s₂,s₁,hn,hs,hfo,hR⟩
theorem byP {p:Prop}(h:∀ P:Prop,(p→P)→P):p:=h p id
theorem disj {V E O C:Type} {A A' B4:V→Prop} {A1 A2 A3 A4 A5:V→Prop}{B B':E→Prop} {D1 D2 D3 D4 D5 E5:E→O→C→Prop}
    (h:(∃ v,A v∧A1 v∧A2 v∧A3 v∧A4 v∧A5 v)∨∃ e o c,B e∧D1 e o c∧D2 e o c∧D3 e o c∧D4 e o c∧D5 e o c)(a:∀ v,A v→A' v)(b:∀ v,A4 v→B4 v)(c:∀ e,B e→B' e)(d:∀ x y z,D5 x y z→E5 x y z) :
    (∃ v,A' v∧A1 v∧A2 v∧A3 v∧B4 v∧A5 v)∨∃ e o c,B' e∧D1 e o c∧D2 e o c∧D3 e o c∧D4 e o c∧E5 e o c:=
  h.imp (Exists.imp fun v h=>⟨a v h.1,h.2.1,h.2.2.1,h.2.2.2.1,b v h.2.2.2.2.1,h.2.2.2.2.2⟩) fun h=>h.elim fun x h=>h.elim fun y h=>h.elim fun z h=>⟨x,y,z,c x h.1,h.2.1,h.2.2.1,h.2.2.2.1,h.2.2.2.2.1,d _ _ _ h.2.2.2.2.2⟩
theorem ex_of {X Y N O S:Type}{L:X→Y→Prop} {P1 P2 P3 P4 P5 P6:X→Y→N→O→S→Prop}{x:X}{y:Y}{n:N}{o:O}{s:S}(hL:L x y)
    (h:P1 x y n o s∧P2 x y n o s∧P3 x y n o s∧P4 x y n o s∧P5 x y n o s∧P6 x y n o s):∃ x y,L x y∧∃ n o s,P1 x y n o s∧P2 x y n o s∧P3 x y n o s∧P4 x y n o s∧P5 x y n o s∧P6 x y n o s:=⟨x,y,hL,n,o,s,h⟩
theorem Xb {c:ClaimW}{tree:List Value→Sem Fin}{w:World}{s:Shared}{free:Addr→Prop}{gens:Prop}{kept:Heap→Prop}(hz:s.asleep)(hgens:s.gens = #[])
    (hspec:∀ args,c.pre args=true→WData.layableAll args=true→∀ ord:List DictEntry→List DictEntry,(∀ l,(ord l).Perm l) →
      ∃ vs s₁,layAllW c.records (classAt s.heap) w.params ord args s=some (vs,s₁) ∧
        wpR (model c.prog w) callerA (tree vs) (fun fin s'=>∃ f,fin=.done f∧(c.Ends s args vs s₁ (.ok f) s'∧s'.os=s.os∧AllBare s'.gens∧kept s'.heap)) s₁) :
    c.CallFrom (fun vs=>⟨tree vs,.builtin "claim.caller" {},default,[]⟩) w free gens kept s:=by
  intro args hpre hlay ord hord;refine byP fun P0 kP=>?_;obtain ⟨vs,s₁,hlaid,hcode⟩:=hspec args hpre hlay ord hord;have hal:=layAllW_rest _ _ _ hlaid;obtain ⟨k,r,s',s'',hrun,hsched,hfo,hcase,hos,hkp⟩:=A6l (prog:=c.prog) (w:=w) (t:=tree vs) (s:=s₁) (R:=fun r s'=>c.Ends s args vs s₁ r s'∧s'.os=s.os∧kept s'.heap)
    (Shared.asleep_of_life hal.2.2.2 hz) (Df hcode fun fin s' h=>h.imp fun f h=>⟨h.1,⟨h.2.1,h.2.2.1,h.2.2.2.2⟩,leftWithCleanup_false_of_bare h.2.2.2.1⟩)
  have q:=Shared.forget_eq hfo;have hcase:=hcase.congr q.1;exact kP (ex_of hlaid ⟨hsched,disj hcase (fun ξ h=>h ▸ rfl) (fun ξ h b o y ξ=>h b o y) (fun ξ h=>h ▸ rfl) (fun ξ ξ ξ h b o y ξ=>h b o y),fun ξ i x hx=>(by rw [hgens] at hx;simp at hx),q.1 ▸ hkp,((runN_life _ _ _ hrun).trans hal.2.2.2).symm ▸ rfl,Shared.rest_eq (q.2.2.2.1 ▸ hos)⟩)
noncomputable abbrev A4G (q:Program) (loose:List Str) (XP:(Str→Option Value)→Heap→Prop) (YP:World→Heap→Prop) (r:RowW) (d:DefRec) (kwd:List (Str×Expr)):Prop:=
  ∀ (w:World) (s₀ s₁:Shared) (mg mb:Str→Option Value),Ground q loose r.records XP w s₀ mg mb s₁.heap→YP w s₁.heap→∀ (a:Addr),mg d.name=some (.ref a)→s₁.gens = #[] →
    ∀ (args:List WData) (vals:List Value) (as:List Addr),r.claim.pre args=true→WData.layableAll args=true→ReadsAllW r.records (classAt s₀.heap) s₁.heap vals args as→WellAll w.params s₁.heap vals args→(∀ a∈as,(a == sysModules)=false) →
      wpR (model r.prog w) callerA (PySem.call (.ref a) vals) (fun v s'=>GoodWG r.claim (classAt s₀.heap) (ExcName.means s₀.heap) args s₁ (.ok (.ret v)) s') s₁
class inductive KW (P:outParam Prop):Prop
  | mk:P→KW P
theorem PySem.W.holds_open {P:Prop}[kw:KW P] {r:OpenRow}{q:Program}{loose:List Str}{Xt:Shared→Bool}{XP:(Str→Option Value)→Heap→Prop}{α:Type}{Yf:Shared→α}{Ya:World→α}{YP:World→Heap→Prop}{d:DefRec}{kwd:List (Str×Expr)}{N:Nat}
    (left:LeftO r.prog q loose Xt Yf Ya N)(hY:∀ w s,Yf s=Ya w→YP w s.heap)(hYk:∀ w h h',YP w h→(∀ b o,h.get? b=some o→h'.get? b=some o)→YP w h')
    (hX:∀ s,Xt s=true→XP (s.heap.nsMap mainGlobals) s.heap)(hXk:∀ mg h h',XP mg h→(∀ b o,h.get? b=some o→h'.get? b=some o)→XP mg h')
    (hdef:defOf q r.name=some (d,kwd))(hp:r.prog.theDef r.name=some (d.params,d.body,d.scope))(hk:kwWritten? d.params.kwonlyargs d.params.kw_defaults=some kwd)(hRf:∀ s,Xt s=true→RecFacts r.records s.heap)(hwr:(!r.writes || r.records.isEmpty)=true)
    (k1:r.wellSaid=true) (ok:(chainsOk q && opensWell r.prog && (frees r.toRowW && r.within.isEmpty))=true) (hb:r.prog.bare) (hw:r.toRowW.promised)
    (call:P→A4G q loose XP YP r.toRowW d kwd):r.Holds:=by
  replace call:=call (kw.rec id);obtain ⟨ok,k5⟩:=Bool.and_eq_true_iff.mp ok;obtain ⟨hch,o1⟩:=Bool.and_eq_true_iff.mp ok;obtain ⟨k5,k6⟩:=Bool.and_eq_true_iff.mp k5;obtain ⟨hsame,hu,ha,hap,hm⟩:=frees_parts k5;refine ⟨k1,hw,⟨hb,o1,by show r.makers.map _=[];rw [hm];rfl⟩,hw.witness,fun w=>⟨(left.behind hX hch w).1,fun s' hs'=>?_⟩⟩;obtain ⟨s₀,hf,hg0,s,hT,hz,hgens,hg,G00,y⟩:=(left.behind (XP:=fun mg h=>XP mg h∧RecFacts r.records h) (fun s hs=>⟨hX s hs,hRf s hs⟩) hch w).2 s' hs';have G0:Ground q loose [] XP w s (s.heap.nsMap mainGlobals) (s.heap.nsMap builtinsNs) s.heap:=⟨G00.T,G00.B,G00.D,G00.TE,G00.TD,G00.W,G00.X.1,G00.cls,G00.has,G00.apart,G00.once,G00.K⟩;have RF:=G00.X.2;refine ⟨s₀,hf,hg0,s,hT,?_,RF.1,RF.2.1,?_⟩
  · intro n hn
    obtain rfl:n=r.name:=by split at hn <;> simp_all
    exact pinned_of_view hg G0 hdef hp hk
  · have hgens:s.gens = #[]:=Array.eq_empty_of_size_eq_zero (beq_iff_eq.mp hgens)
    have G:Ground q loose r.records XP w s _ _ s.heap:=RF.ground G0;refine Xb (c:=r.claim) (tree:=fun vs=>do match ← nsGet mainNs r.name with
      | some f=>do ret (← PySem.call f vs)
      | none=>unsupported "claim.caller:no-such-global") hz hgens fun args hpre hlay ord hord=>?_
    obtain (⟨⟨vs,s₁⟩,hlaid⟩):=Option.isSome_iff_exists.mp (layAllW_isSome (P:=w.params) (ord:=ord) G.has args r.args s (pre_splitW hpre).1);have keeps:=layAllW_keeps _ _ _ hlaid;have hal:=layAllW_rest _ _ _ hlaid;obtain ⟨as,hrd,hin,hold⟩:=reads_layAllW hord _ _ _ hlaid hlay s₁.heap (fun ξ ξ e=>e);have L:Laid r.records w s s₁ args vs as:=⟨⟨ord,hord,hlaid⟩,hrd,hin,hold,keeps,hal.1.trans hgens,hal.2.2.1⟩;have G₁:=G.keeps hXk keeps;obtain ⟨a,o,pm,cd,doc,dV,kV,h1,h2,h3,h4,h5⟩:=G₁.fn hdef;have h:=call w s s₁ _ _ G₁ (hYk _ _ _ (hY w s y) keeps) a (defOf_name hdef ▸ h1) L.gens args vs as hpre hlay L.reads L.well (L.low G.low);have hi:=ident_freeW hu ha hap;have hwi:r.claim.within=[]:=List.isEmpty_iff.mp k6;refine ⟨vs,s₁,hlaid,AA (Cf (wpAny_nsGet G₁.T.g ?_))⟩;rw [h1];refine AA (Df h fun v s' g=>Bd ⟨_,rfl,?_⟩);have z:=g.laid (c:=r.claim) hsame hwi hi L;exact ⟨z.1,z.2.1,z.2.2,fun q=>⟨namesKept_of hT hg _ keeps g.2.1.old,noTable hwr q⟩⟩
theorem keep0 {r:OpenRow} (_:Hook)(h:r.Holds) (_:r.toRowW.promised):r.Holds:=h
section
local macro_rules | `(tactic| o_head $H)=>`(tactic| refine keep0 $H ?_ ?hw)
open_top kk for PySem.Challenge.rw_nm0162_01.row
end
namespace fin
noncomputable abbrev T:=True
theorem t:T:=⟨⟩
theorem tw9703995961882730528:T:=t
theorem tw15754549843648202880:T:=t
theorem tw18105285910621931680:T:=t
theorem tw5634151482396758240:T:=t
theorem tw6435670951450185984:T:=t
theorem tw4209717502836232480:T:=t
theorem tw10599938827571368224:T:=t
theorem tw2070271336192807200:T:=t
theorem tw5959876418071484736:T:=t
theorem tw1544503264643628384:T:=t
theorem tw828056024939588000:T:=t
theorem tw3506512066687448480:T:=t
theorem tw3767311804947220896:T:=t
theorem tw4640724917100965312:T:=t
theorem tw17801579834951734752:T:=t
theorem tw16722612574783549952:T:=t
theorem tw17242903989422565920:T:=t
theorem tw10728385900330055232:T:=t
theorem tw13119895379190043232:T:=t
theorem tw15913912297419572864:T:=t
theorem tw12534922522094339712:T:=t
theorem tw3853475060279184000:T:=t
theorem tw17701328389417463424:T:=t
theorem tw18203403984663443072:T:=t
theorem tw6515953530934532768:T:=t
theorem tw799341379326975648:T:=t
theorem tw219163619000016544:T:=t
theorem tw16326573535979396768:T:=t
theorem tw9757074474933493440:T:=t
theorem tw2516017022742817472:T:=t
theorem tw8656503046869711584:T:=t
theorem tw2375283059286425376:T:=t
theorem tw13718649260633737024:T:=t
theorem tw8058895272353334144:T:=t
theorem tw11325060847842403200:T:=t
theorem tw10002699936043487104:T:=t
theorem tw7558420492911801248:T:=t
theorem tw11156769864338437024:T:=t
theorem tw11298980531735778240:T:=t
theorem tw9883050511414546368:T:=t
theorem tw11192643925408225281:T:=t
theorem tw2204852077615127585:T:=t
theorem tw174019566453475457:T:=t
theorem tw6220327705178566785:T:=t
theorem tw10704335966402640001:T:=t
theorem tw11293339424137598113:T:=t
theorem tw11575174756993882273:T:=t
theorem tw2885147992704089249:T:=t
theorem tw12487371901255815361:T:=t
theorem tw15153159077126877473:T:=t
theorem tw7249652514872940865:T:=t
theorem tw8654399550266618177:T:=t
theorem tw4704930585520482657:T:=t
theorem tw10891054232620793217:T:=t
theorem tw15566928917628492161:T:=t
theorem tw8446749797226024353:T:=t
theorem tw15815952407149668801:T:=t
theorem tw13582292425324344769:T:=t
theorem tw4443050520305737185:T:=t
theorem tw14838103818555229697:T:=t
theorem tw18085205558954209793:T:=t
theorem tw452842511749404161:T:=t
theorem tw5647864574477489665:T:=t
theorem tw9508293364712189505:T:=t
theorem tw945457799607111265:T:=t
theorem tw10850621001676330593:T:=t
theorem tw9509447333196811905:T:=t
theorem tw11772964195913830049:T:=t
theorem tw1519764728837627585:T:=t
theorem tw11414119711712004833:T:=t
theorem tw3794220679723124481:T:=t
theorem tw9562887932049252097:T:=t
theorem tw15205425988870721313:T:=t
theorem tw7072277547680571169:T:=t
theorem tw16407147864228438881:T:=t
theorem tw4440197508161821537:T:=t
theorem tw18105942590061964161:T:=t
theorem tw4928979718650693569:T:=t
theorem tw8119881530291889089:T:=t
theorem tw10478924771774928865:T:=t
theorem tw5486226609284752418:T:=t
theorem tw17597299252120027202:T:=t
theorem tw17717364068325071970:T:=t
theorem tw9962418760945406050:T:=t
theorem tw4533668543753331810:T:=t
theorem tw9357874355931990178:T:=t
theorem tw5106123347721008290:T:=t
theorem tw8775384921122389154:T:=t
theorem tw6815667921103612162:T:=t
theorem tw3373110491918621954:T:=t
theorem tw5689665320540551426:T:=t
theorem tw11067033192786714914:T:=t
theorem tw9630727543176058210:T:=t
theorem tw13337293482115323266:T:=t
theorem tw10829458402184033698:T:=t
theorem tw10699407837109476802:T:=t
theorem tw7816886789376521730:T:=t
theorem tw7995428538843987458:T:=t
theorem tw12454092890298587682:T:=t
theorem tw265940963699897922:T:=t
theorem tw3510506673179690562:T:=t
theorem tw16503470079419688546:T:=t
theorem tw10696652717036330658:T:=t
theorem tw10194128795564708546:T:=t
theorem tw3246839028233683650:T:=t
theorem tw11869342324683393730:T:=t
theorem tw14721709283769024194:T:=t
theorem tw4910921440188858082:T:=t
theorem tw8324475765796731650:T:=t
theorem tw18255404467826089762:T:=t
theorem tw9038226972742754082:T:=t
theorem tw17311274769643918242:T:=t
theorem tw4769821431679368130:T:=t
theorem tw12962497063298326498:T:=t
theorem tw11627564742378439650:T:=t
theorem tw18082680734076937219:T:=t
theorem tw4424551920762525699:T:=t
theorem tw13574545013463194659:T:=t
theorem tw18011332887955570755:T:=t
theorem tw670465573061467203:T:=t
theorem tw13467322939085005891:T:=t
theorem tw8590288500278120515:T:=t
theorem tw17314879045244329059:T:=t
theorem tw17149882997012438147:T:=t
theorem tw17881394067367492771:T:=t
theorem tw18203776172705718467:T:=t
theorem tw6827196828439936291:T:=t
theorem tw4992356995671143779:T:=t
theorem tw17344510285554748771:T:=t
theorem tw8151358987872166243:T:=t
theorem tw4170516301191304579:T:=t
theorem tw4574527179188669827:T:=t
theorem tw3023385222666876323:T:=t
theorem tw12418498117042121155:T:=t
theorem tw7930893340574950883:T:=t
theorem tw584112131590315491:T:=t
theorem tw9113340658982188547:T:=t
theorem tw17465016565071970851:T:=t
theorem tw638937937634476611:T:=t
theorem tw9436355067682764387:T:=t
theorem tw14939693663707051619:T:=t
theorem tw13066358836101814915:T:=t
theorem tw16115155874713506467:T:=t
theorem tw5402249366112354979:T:=t
theorem tw3762306804915933987:T:=t
theorem tw9246303508379850531:T:=t
theorem tw11147117730913898307:T:=t
theorem tw4124276233288881987:T:=t
theorem tw2896703901015224195:T:=t
theorem tw12135189313929291683:T:=t
theorem tw11151619158091525091:T:=t
theorem tw1903126291601959907:T:=t
theorem tw11707752901727499235:T:=t
theorem tw17724625539836693508:T:=t
theorem tw1306319669024162852:T:=t
theorem tw9073057256386726948:T:=t
theorem tw16117218838092406820:T:=t
theorem tw6667815254911646788:T:=t
theorem tw8511326990415419460:T:=t
theorem tw15130973080138329188:T:=t
theorem tw8088732932480780420:T:=t
theorem tw7786677914034681988:T:=t
theorem tw11462241541112437924:T:=t
theorem tw9825859731914700964:T:=t
theorem tw17132207802985990308:T:=t
theorem tw14345562132136545540:T:=t
theorem tw3733651895302910212:T:=t
theorem tw11900726367713137988:T:=t
theorem tw6388184931127306564:T:=t
theorem tw9559820642381380932:T:=t
theorem tw15846704840505152836:T:=t
theorem tw17036620345825979748:T:=t
theorem tw12979919090201106820:T:=t
theorem tw16912196016219973028:T:=t
theorem tw8629152706101051812:T:=t
theorem tw6245052726248493572:T:=t
theorem tw8607229883538334244:T:=t
theorem tw11355490997034717764:T:=t
theorem tw15367214624046358148:T:=t
theorem tw2775396313129547428:T:=t
theorem tw16991462679434999460:T:=t
theorem tw2995622967998787300:T:=t
theorem tw3865292505339112164:T:=t
theorem tw6620434350048004:T:=t
theorem tw3302319216010004292:T:=t
theorem tw15434440284735832900:T:=t
theorem tw848606289541702500:T:=t
theorem tw7334248845499685764:T:=t
theorem tw11395320378806372228:T:=t
theorem tw17963964198891936676:T:=t
theorem tw14257018576560825284:T:=t
theorem tw18099640592841667524:T:=t
theorem tw18322691176947310564:T:=t
theorem tw9260378047223084069:T:=t
theorem tw4696956992080197669:T:=t
theorem tw3717791156732904485:T:=t
theorem tw1560641971993327685:T:=t
theorem tw4775051631455894629:T:=t
theorem tw6227736768552902789:T:=t
theorem tw6202570286863721605:T:=t
theorem tw5197314502515736709:T:=t
theorem tw7716820226725407877:T:=t
theorem tw2367325634123391141:T:=t
theorem tw2394721887258651877:T:=t
theorem tw11205304004016384229:T:=t
theorem tw7929640520542984453:T:=t
theorem tw15488412567658976549:T:=t
theorem tw6361463693118634277:T:=t
theorem tw10818889477481085253:T:=t
theorem tw5585719645790517573:T:=t
theorem tw13496708705503635781:T:=t
theorem tw15476544859757588837:T:=t
theorem tw8053913732961167717:T:=t
theorem tw3523348777828740581:T:=t
theorem tw8269367382603917829:T:=t
theorem tw612862322836996645:T:=t
theorem tw14578271805448956485:T:=t
theorem tw4713690678409872965:T:=t
theorem tw7140382293752143429:T:=t
theorem tw13501502787908985413:T:=t
theorem tw14979938633740849765:T:=t
theorem tw3906754673857718949:T:=t
theorem tw11497045990708751045:T:=t
theorem tw6765885160407392965:T:=t
theorem tw5102460946473063141:T:=t
theorem tw6474043946942992101:T:=t
theorem tw10007411396671696613:T:=t
theorem tw2305881189932309285:T:=t
theorem tw448459338275823397:T:=t
theorem tw7613857476909055813:T:=t
theorem tw3410196128995246917:T:=t
theorem tw8603500279265290053:T:=t
theorem tw17610481187121035141:T:=t
theorem tw13689246381084688261:T:=t
theorem tw7613945582906998725:T:=t
theorem tw13925877587632400325:T:=t
theorem tw13814004702073501669:T:=t
theorem tw11273041486466551846:T:=t
theorem tw10901649546591821862:T:=t
theorem tw9524105066518557862:T:=t
theorem tw10895054467252067526:T:=t
theorem tw16275787546110486726:T:=t
theorem tw12833947400113492166:T:=t
theorem tw14336544582882092262:T:=t
theorem tw3788772014149755174:T:=t
theorem tw8282812270067184934:T:=t
theorem tw12669758225909598566:T:=t
theorem tw16448914465934546278:T:=t
theorem tw17356987340757268870:T:=t
theorem tw10678765320413552006:T:=t
theorem tw1951045429614898598:T:=t
theorem tw3863403702602939814:T:=t
theorem tw17637551073024348614:T:=t
theorem tw11116067473893591494:T:=t
theorem tw2441168790927817222:T:=t
theorem tw13635414795387738630:T:=t
theorem tw15523922138108190246:T:=t
theorem tw7717632546995137062:T:=t
theorem tw3199103547748192838:T:=t
theorem tw17130245016438642246:T:=t
theorem tw4400235506592986758:T:=t
theorem tw769983615490850566:T:=t
theorem tw4924110625330727750:T:=t
theorem tw15069271281064182630:T:=t
theorem tw5978438607452443526:T:=t
theorem tw1209720653154232198:T:=t
theorem tw10807920368746810246:T:=t
theorem tw15459455144867644326:T:=t
theorem tw4171678462856256454:T:=t
theorem tw5407232425735434182:T:=t
theorem tw6872408275531757542:T:=t
theorem tw13295704053362595847:T:=t
theorem tw17903097145777710087:T:=t
theorem tw4754552298942338087:T:=t
theorem tw4201165798948173927:T:=t
theorem tw10888490241844629607:T:=t
theorem tw15352680317512419463:T:=t
theorem tw12741526300851653767:T:=t
theorem tw1736138319177078919:T:=t
theorem tw15019234207855213703:T:=t
theorem tw273201369580953799:T:=t
theorem tw11338875618241718471:T:=t
theorem tw7563514974416257223:T:=t
theorem tw5725524221116865799:T:=t
theorem tw11277597615667878183:T:=t
theorem tw18176387895596863783:T:=t
theorem tw12696600883282566439:T:=t
theorem tw8330952907988395303:T:=t
theorem tw12118000046449163591:T:=t
theorem tw2565351972500760935:T:=t
theorem tw15243534294739168615:T:=t
theorem tw10043950574865488231:T:=t
theorem tw9218923581257491847:T:=t
theorem tw416177051242630535:T:=t
theorem tw10770419977021028743:T:=t
theorem tw15238337123492228519:T:=t
theorem tw17123178472405020103:T:=t
theorem tw14297971457927632359:T:=t
theorem tw3112429581023547943:T:=t
theorem tw2103456241558337223:T:=t
theorem tw10350682745594973927:T:=t
theorem tw6921073858925291239:T:=t
theorem tw12403690455625630471:T:=t
theorem tw10422873002695632711:T:=t
theorem tw13360279666012451719:T:=t
theorem tw2687768774938457991:T:=t
theorem tw14856888987745899463:T:=t
theorem tw1035503724928835527:T:=t
theorem tw1976505206021243879:T:=t
theorem tw14899709244077398024:T:=t
theorem tw11851709006616689672:T:=t
theorem tw8732412218395851816:T:=t
theorem tw14279960228734115912:T:=t
theorem tw12586190556516072552:T:=t
theorem tw947276838399291496:T:=t
theorem tw7380833856163905736:T:=t
theorem tw14679806638718605512:T:=t
theorem tw11466478281803324712:T:=t
theorem tw12494888245299231016:T:=t
theorem tw2086631506510373192:T:=t
theorem tw8622160174418277736:T:=t
theorem tw6485783843944922600:T:=t
theorem tw6380807493870290408:T:=t
theorem tw7383848191655739912:T:=t
theorem tw4576743580672133640:T:=t
theorem tw13565238788985558536:T:=t
theorem tw12757720458447036936:T:=t
theorem tw2976117146107443816:T:=t
theorem tw5984158551500366440:T:=t
theorem tw12890721736228548200:T:=t
theorem tw17484917917373573768:T:=t
theorem tw14431720936831517352:T:=t
theorem tw1625080806587739848:T:=t
theorem tw15225332579556243176:T:=t
theorem tw6525817661751114472:T:=t
theorem tw11897717083992391400:T:=t
theorem tw15149952090015108872:T:=t
theorem tw17779459042885607208:T:=t
theorem tw8919302590299486024:T:=t
theorem tw7506790693688995688:T:=t
theorem tw428092273266315144:T:=t
theorem tw3125960719983571848:T:=t
theorem tw1105837973531982728:T:=t
theorem tw999798209818781672:T:=t
theorem tw16956781808756083688:T:=t
theorem tw1422313219903470601:T:=t
theorem tw12946824338688289833:T:=t
theorem tw9059937348426287209:T:=t
theorem tw17919198479052140649:T:=t
theorem tw3343445320678177929:T:=t
theorem tw6061592489118403721:T:=t
theorem tw15938515463387723913:T:=t
theorem tw17220895691602665673:T:=t
theorem tw15533503492667675913:T:=t
theorem tw8587099438709951753:T:=t
theorem tw5996712805030441225:T:=t
theorem tw7021976415091001641:T:=t
theorem tw1921165311934587177:T:=t
theorem tw12261892603037129033:T:=t
theorem tw10671828304227620169:T:=t
theorem tw12612204703400128841:T:=t
theorem tw1921391257341544841:T:=t
theorem tw14165584387687976329:T:=t
theorem tw10372454290965829033:T:=t
theorem tw9556950149685670313:T:=t
theorem tw16867096813858660809:T:=t
theorem tw16656299143469825513:T:=t
theorem tw14995081694147124713:T:=t
theorem tw10281396178488509929:T:=t
theorem tw15234240111613058569:T:=t
theorem tw11260992270255960585:T:=t
theorem tw4684940682943077961:T:=t
theorem tw9735714214384596553:T:=t
theorem tw1195334901915552329:T:=t
theorem tw12868640280835112553:T:=t
theorem tw3004984022683251337:T:=t
theorem tw10098057777631523497:T:=t
theorem tw17570709534508481193:T:=t
theorem tw8352470293576582857:T:=t
theorem tw9387745189664136937:T:=t
theorem tw2046393882495617769:T:=t
theorem tw16196181902256332553:T:=t
theorem tw3432132637015033673:T:=t
theorem tw16125780511175521129:T:=t
theorem tw10504543856557348713:T:=t
theorem tw7830629276484211593:T:=t
theorem tw14855157385224911753:T:=t
theorem tw12480679962508375977:T:=t
theorem tw16269368082590959529:T:=t
theorem tw4002333041265778665:T:=t
theorem tw10831918285883469834:T:=t
theorem tw8890792774038802474:T:=t
theorem tw14996743850099388458:T:=t
theorem tw11953781441336167498:T:=t
theorem tw10852849658779182186:T:=t
theorem tw16906536467411238026:T:=t
theorem tw757079261281740938:T:=t
theorem tw4538191230965241994:T:=t
theorem tw5713887491374438570:T:=t
theorem tw2991292073481677994:T:=t
theorem tw884059145510264010:T:=t
theorem tw16570786720924097770:T:=t
theorem tw7468727024169554154:T:=t
theorem tw9220288515469044970:T:=t
theorem tw8559517257967667466:T:=t
theorem tw17918125715009934602:T:=t
theorem tw6081921254191324426:T:=t
theorem tw12149302876761508202:T:=t
theorem tw14637358334870819178:T:=t
theorem tw8092282109911263626:T:=t
theorem tw7098310284689642954:T:=t
theorem tw1348009686575996458:T:=t
theorem tw5920281757701029450:T:=t
theorem tw4329306826757983850:T:=t
theorem tw6113989636485653130:T:=t
theorem tw2556814553914141322:T:=t
theorem tw11681796200868592266:T:=t
theorem tw4868334931027891882:T:=t
theorem tw4613182775407389354:T:=t
theorem tw4337157586716928682:T:=t
theorem tw5351017473137806058:T:=t
theorem tw3976127234124569322:T:=t
theorem tw12711679700452659978:T:=t
theorem tw10790007923984976650:T:=t
theorem tw14568449535678555946:T:=t
theorem tw17186005699333237546:T:=t
theorem tw14139026862911339306:T:=t
theorem tw17461915456910197578:T:=t
theorem tw4588413851689716618:T:=t
theorem tw10874316729293906858:T:=t
theorem tw14560573928864763818:T:=t
theorem tw17433287530729320394:T:=t
theorem tw12284014389350100970:T:=t
theorem tw2320886540369039338:T:=t
theorem tw13097714293880789003:T:=t
theorem tw14239432107786713131:T:=t
theorem tw5593514722818144331:T:=t
theorem tw10242451874928486539:T:=t
theorem tw13870153662132920491:T:=t
theorem tw857469055436470443:T:=t
theorem tw8399098705505230059:T:=t
theorem tw9713546201632813291:T:=t
theorem tw5063945577112930571:T:=t
theorem tw17821466097196317003:T:=t
theorem tw18143685660980048203:T:=t
theorem tw14210890002308233579:T:=t
theorem tw2067723777617599883:T:=t
theorem tw944567322932927883:T:=t
theorem tw18164189302063226315:T:=t
theorem tw11209750170652599755:T:=t
theorem tw7661832156752021035:T:=t
theorem tw5246096745964282443:T:=t
theorem tw3284908762747795019:T:=t
theorem tw16285329926789087883:T:=t
theorem tw17567850324905474699:T:=t
theorem tw16068754644101465803:T:=t
theorem tw15741700470354863883:T:=t
theorem tw17535827442545306379:T:=t
theorem tw146108955859267339:T:=t
theorem tw15523924160545744683:T:=t
theorem tw5962627729488381771:T:=t
theorem tw12809788781938459499:T:=t
theorem tw17416127249078093707:T:=t
theorem tw2980313836526270443:T:=t
theorem tw9161697477995246604:T:=t
theorem tw6806541166334345260:T:=t
theorem tw2053592712835629100:T:=t
theorem tw6449190631224713292:T:=t
theorem tw1963134401048803436:T:=t
theorem tw13566729865485783148:T:=t
theorem tw4785737784526614668:T:=t
theorem tw17347454772498655404:T:=t
theorem tw9524518906428321964:T:=t
theorem tw33427290768588972:T:=t
theorem tw17136511569032190220:T:=t
theorem tw16496857829328116044:T:=t
theorem tw8776770756819070316:T:=t
theorem tw2797696144272983404:T:=t
theorem tw6207176494656529804:T:=t
theorem tw4217414874291451276:T:=t
theorem tw3597285623890379148:T:=t
theorem tw7028063314416541132:T:=t
theorem tw9631822210178866636:T:=t
theorem tw16145351769185666540:T:=t
theorem tw15273852366172491244:T:=t
theorem tw14492276426124471788:T:=t
theorem tw11623398277830307340:T:=t
theorem tw1206694682578267724:T:=t
theorem tw1103255985313285740:T:=t
theorem tw15144710454662140524:T:=t
theorem tw5734618986648460908:T:=t
theorem tw803859442106103436:T:=t
theorem tw11280146832396436108:T:=t
theorem tw10070804522480449196:T:=t
theorem tw6846200578177281708:T:=t
theorem tw6634307039904815820:T:=t
theorem tw1324748791087667916:T:=t
theorem tw10091234832980417260:T:=t
theorem tw12356021495744459628:T:=t
theorem tw12273546716903637868:T:=t
theorem tw1766193274316824492:T:=t
theorem tw18404063521330658252:T:=t
theorem tw266292477781368812:T:=t
theorem tw12072802829135307789:T:=t
theorem tw13278809456085556237:T:=t
theorem tw12629903358213643309:T:=t
theorem tw17108682257543074861:T:=t
theorem tw16859985489051350061:T:=t
theorem tw10776127142208907341:T:=t
theorem tw12876116671307685997:T:=t
theorem tw4833179351181384845:T:=t
theorem tw7518579229450374285:T:=t
theorem tw8289400949097046189:T:=t
theorem tw295240868970151085:T:=t
theorem tw6848912972918003917:T:=t
theorem tw16109372258727991565:T:=t
theorem tw16497079637816224013:T:=t
theorem tw8953957674483744013:T:=t
theorem tw16530489862217454893:T:=t
theorem tw9604457797605292365:T:=t
theorem tw14190076187652291949:T:=t
theorem tw9229436766338760077:T:=t
theorem tw9231918322118259117:T:=t
theorem tw13673274986797844941:T:=t
theorem tw12686965223737687597:T:=t
theorem tw2617349483901765261:T:=t
theorem tw13093503161671486093:T:=t
theorem tw7012847345093111469:T:=t
theorem tw7845872953664198349:T:=t
theorem tw14021872759519490765:T:=t
theorem tw13217662176923290317:T:=t
theorem tw1202912048536075021:T:=t
theorem tw5193127060418132845:T:=t
theorem tw16229209127682248589:T:=t
theorem tw17698704350827878285:T:=t
theorem tw6531376189190222733:T:=t
theorem tw5141113994777284493:T:=t
theorem tw14947666393706783629:T:=t
theorem tw16889484823980962733:T:=t
theorem tw9001875181463519149:T:=t
theorem tw8940416962707143629:T:=t
theorem tw3029852977388229646:T:=t
theorem tw12292906935544458286:T:=t
theorem tw10088260576245011566:T:=t
theorem tw3216615955080020110:T:=t
theorem tw4950403968356008110:T:=t
theorem tw2304379251839397102:T:=t
theorem tw12557769604369416430:T:=t
theorem tw7022806388564383982:T:=t
theorem tw9913140749668108558:T:=t
theorem tw10877920979083283726:T:=t
theorem tw17149583648110088462:T:=t
theorem tw16593498308125037870:T:=t
theorem tw8288733244629462318:T:=t
theorem tw9436597474664901934:T:=t
theorem tw6381419901266130222:T:=t
theorem tw4438853406884378958:T:=t
theorem tw3752056022367304142:T:=t
theorem tw17830361364027725262:T:=t
theorem tw8614737586434602478:T:=t
theorem tw1213908355484861934:T:=t
theorem tw6461409362072667662:T:=t
theorem tw1982079694162106894:T:=t
theorem tw5071919506433949198:T:=t
theorem tw17656766251404061198:T:=t
theorem tw6566618420281934:T:=t
theorem tw10939691994893167182:T:=t
theorem tw7684487725183542926:T:=t
theorem tw14166196953294261902:T:=t
theorem tw3211687289105081006:T:=t
theorem tw17743408960866722510:T:=t
theorem tw1450881378762983150:T:=t
theorem tw14672911461793829614:T:=t
theorem tw7675655780812522254:T:=t
theorem tw17809232949079649038:T:=t
theorem tw5897612983314593646:T:=t
theorem tw2512408688544751470:T:=t
theorem tw14449560505687523246:T:=t
theorem tw5792265106169080782:T:=t
theorem tw5957180451953820622:T:=t
theorem tw14728723275428758510:T:=t
theorem tw17197158672614542318:T:=t
theorem tw15083174532876359662:T:=t
theorem tw5079576279043364846:T:=t
theorem tw11154830654865731599:T:=t
theorem tw13929302177132474383:T:=t
theorem tw17235304873150492719:T:=t
theorem tw10391319463526535247:T:=t
theorem tw1535588207084551279:T:=t
theorem tw3939050589584296047:T:=t
theorem tw17495881415371897999:T:=t
theorem tw1777069842159760527:T:=t
theorem tw11277574374343807151:T:=t
theorem tw4716181948101807:T:=t
theorem tw429763040754596015:T:=t
theorem tw2415902012162501839:T:=t
theorem tw11819170096642289871:T:=t
theorem tw7000300075881102575:T:=t
theorem tw2603282792292808943:T:=t
theorem tw10011167713772783887:T:=t
theorem tw15942684835789789487:T:=t
theorem tw3268265519342814607:T:=t
theorem tw2277568627679802767:T:=t
theorem tw6323506392446703087:T:=t
theorem tw3523121762093710863:T:=t
theorem tw2671655128345628175:T:=t
theorem tw1562932699786603023:T:=t
theorem tw17511047464938703439:T:=t
theorem tw12283613380358538863:T:=t
theorem tw10656291684629039791:T:=t
theorem tw10469515968555745039:T:=t
theorem tw17234587430967350031:T:=t
theorem tw13021059552284102479:T:=t
theorem tw4395496475954998127:T:=t
theorem tw14786503066443513839:T:=t
theorem tw2670571373685298256:T:=t
theorem tw7336344344812659824:T:=t
theorem tw8696399802814041232:T:=t
theorem tw3550807849831375056:T:=t
theorem tw6454446336052903152:T:=t
theorem tw3185298417894076688:T:=t
theorem tw14909718650217641264:T:=t
theorem tw16253991525020053840:T:=t
theorem tw7844069586390513008:T:=t
theorem tw11989984593139433840:T:=t
theorem tw2654552327011884432:T:=t
theorem tw9372646840530371024:T:=t
theorem tw1281744992317467088:T:=t
theorem tw13790858721211988464:T:=t
theorem tw423345284130997744:T:=t
theorem tw12996517811204074000:T:=t
theorem tw1696472442062974480:T:=t
theorem tw15120748072543544848:T:=t
theorem tw3222278782482380304:T:=t
theorem tw9221430085559818832:T:=t
theorem tw982560976839675504:T:=t
theorem tw13815853411582834384:T:=t
theorem tw10998343915150870288:T:=t
theorem tw1635022588487117616:T:=t
theorem tw500868675978126160:T:=t
theorem tw13383306551100868464:T:=t
theorem tw13162651487661262736:T:=t
theorem tw1245903078790988720:T:=t
theorem tw16958243865122950064:T:=t
theorem tw5372875611105449904:T:=t
theorem tw3885313090954376144:T:=t
theorem tw5230622158679508976:T:=t
theorem tw11336253725339858928:T:=t
theorem tw4806268862455609328:T:=t
theorem tw3541825141892303889:T:=t
theorem tw1252854909445205041:T:=t
theorem tw12073638493852289073:T:=t
theorem tw3173534031939492945:T:=t
theorem tw4312942655851389009:T:=t
theorem tw6370398367566163025:T:=t
theorem tw15094949803261831281:T:=t
theorem tw1709551657539720305:T:=t
theorem tw12856649910388040817:T:=t
theorem tw8660049834305141905:T:=t
theorem tw9358891041858214033:T:=t
theorem tw16584127079891442865:T:=t
theorem tw12458955589063782577:T:=t
theorem tw124547854259737777:T:=t
theorem tw2462912638960843985:T:=t
theorem tw15396384818603876561:T:=t
theorem tw6113892759573084369:T:=t
theorem tw12993229153697758449:T:=t
theorem tw9844327171925773585:T:=t
theorem tw5098551885099359569:T:=t
theorem tw18387650150990424433:T:=t
theorem tw16375469754199864689:T:=t
theorem tw7363827456180718993:T:=t
theorem tw17869975865946814897:T:=t
theorem tw480829909506669009:T:=t
theorem tw15832999045522443761:T:=t
theorem tw5523082835119374833:T:=t
theorem tw220677088936066577:T:=t
theorem tw11750646167744613905:T:=t
theorem tw11414674201277728305:T:=t
theorem tw16957808320718949937:T:=t
theorem tw17911201065640838737:T:=t
theorem tw14667941539000003185:T:=t
theorem tw3404873503106905745:T:=t
theorem tw11346557470443003569:T:=t
theorem tw17446947388961346225:T:=t
theorem tw5266742908149448401:T:=t
theorem tw2218633174628956881:T:=t
theorem tw10393886385942881009:T:=t
theorem tw14075178694198228753:T:=t
theorem tw944135987803093777:T:=t
theorem tw9659392335347125073:T:=t
theorem tw9508526790633795441:T:=t
theorem tw10628475034512898961:T:=t
theorem tw5320702786494000081:T:=t
theorem tw4652738160404261841:T:=t
theorem tw2656788454239962097:T:=t
theorem tw13203597883595413489:T:=t
theorem tw10008639444204986386:T:=t
theorem tw13561466723244134546:T:=t
theorem tw9722632081671974098:T:=t
theorem tw11587955951900863698:T:=t
theorem tw5679570950571409650:T:=t
theorem tw15307359549416329458:T:=t
theorem tw10907391636593693970:T:=t
theorem tw1887099378405440850:T:=t
theorem tw12105171945263650130:T:=t
theorem tw5073790198343104882:T:=t
theorem tw12171577908484138354:T:=t
theorem tw1327509311449162130:T:=t
theorem tw11607805686811502034:T:=t
theorem tw14468091648759818802:T:=t
theorem tw9437242357050131058:T:=t
theorem tw13235901397817054834:T:=t
theorem tw3837020019201816242:T:=t
theorem tw12847644182280273618:T:=t
theorem tw16798467561266328274:T:=t
theorem tw5576714124690252594:T:=t
theorem tw11637346524468614962:T:=t
theorem tw9363291351745731410:T:=t
theorem tw17971676594858020690:T:=t
theorem tw6766580051018981234:T:=t
theorem tw11179249921394602866:T:=t
theorem tw12718612220689870738:T:=t
theorem tw17344254963278052338:T:=t
theorem tw2527257450557998099:T:=t
theorem tw5354148072674057331:T:=t
theorem tw17283115642960038067:T:=t
theorem tw13700621096757390547:T:=t
theorem tw9487260019516590291:T:=t
theorem tw2724587677208862931:T:=t
theorem tw2595221338624275699:T:=t
theorem tw16448676403291746579:T:=t
theorem tw5196160543931855155:T:=t
theorem tw8185091604740117843:T:=t
theorem tw3808604044277672275:T:=t
theorem tw5911770217454447987:T:=t
theorem tw6766378078585498003:T:=t
theorem tw14134379338385194387:T:=t
theorem tw3018758056844737939:T:=t
theorem tw2444273588731816371:T:=t
theorem tw9381001406090123731:T:=t
theorem tw12202137732620339699:T:=t
theorem tw14558545664804480499:T:=t
theorem tw13523910257889291827:T:=t
theorem tw10012918712295848499:T:=t
theorem tw891787732878383699:T:=t
theorem tw4768634762848416435:T:=t
theorem tw14503080293383508659:T:=t
theorem tw17485583185531914963:T:=t
theorem tw997887282184280819:T:=t
theorem tw11224825812204259059:T:=t
theorem tw16644462212089915155:T:=t
theorem tw17974384156558142227:T:=t
theorem tw3611084566261647123:T:=t
theorem tw3399429508193669907:T:=t
theorem tw7911910378639958867:T:=t
theorem tw17933470926392208243:T:=t
theorem tw17546527683439953779:T:=t
theorem tw12564304381541211027:T:=t
theorem tw14574801432027512755:T:=t
theorem tw4499257904209204147:T:=t
theorem tw3599858809825778643:T:=t
theorem tw7638955922819175379:T:=t
theorem tw18274610161616023507:T:=t
theorem tw3598329298470268980:T:=t
theorem tw7830602891274557492:T:=t
theorem tw16478552945605688404:T:=t
theorem tw15344004072050561172:T:=t
theorem tw744865244796547220:T:=t
theorem tw1080700006314346644:T:=t
theorem tw18373065035072037172:T:=t
theorem tw6577878126316647860:T:=t
theorem tw138543146574967220:T:=t
theorem tw3236217559460173300:T:=t
theorem tw17696989986258524660:T:=t
theorem tw12212933522069011988:T:=t
theorem tw6567050819087999508:T:=t
theorem tw14814673180317915700:T:=t
theorem tw3129228512308937268:T:=t
theorem tw888132650186811988:T:=t
theorem tw10313180648002132564:T:=t
theorem tw7008622114716911220:T:=t
theorem tw9329150127792265844:T:=t
theorem tw6215407027087421044:T:=t
theorem tw8992130219625755252:T:=t
theorem tw16639813094937441908:T:=t
theorem tw16622976982446799508:T:=t
theorem tw11079828417688620724:T:=t
theorem tw10936777179133785780:T:=t
theorem tw5227809002895711924:T:=t
theorem tw12464766053444552404:T:=t
theorem tw13593179597827634900:T:=t
theorem tw488218634404078324:T:=t
theorem tw2436393772889279252:T:=t
theorem tw3261639445485040436:T:=t
theorem tw16708981103961760564:T:=t
theorem tw9247658263007524724:T:=t
theorem tw8472697214298850164:T:=t
theorem tw6620296344095940468:T:=t
theorem tw3998398428148030388:T:=t
theorem tw13158425560686309300:T:=t
theorem tw7321584467024264148:T:=t
theorem tw13921985058705105876:T:=t
theorem tw5660257367854189524:T:=t
theorem tw6718411051458867188:T:=t
theorem tw11416045235686555636:T:=t
theorem tw418608610138435605:T:=t
theorem tw17719728818120068181:T:=t
theorem tw216489041496292469:T:=t
theorem tw11040825799340251285:T:=t
theorem tw17267618260052754613:T:=t
theorem tw8025084765662995669:T:=t
theorem tw17684750252590230805:T:=t
theorem tw14517287926952318261:T:=t
theorem tw4374990076676594005:T:=t
theorem tw1727621133314857333:T:=t
theorem tw14018533915963200917:T:=t
theorem tw2370865312241312149:T:=t
theorem tw1580780407708033493:T:=t
theorem tw380778119907437045:T:=t
theorem tw11471956102464614933:T:=t
theorem tw13303660033021381205:T:=t
theorem tw11609251653779473045:T:=t
theorem tw2275749259730422485:T:=t
theorem tw4303106303303389909:T:=t
theorem tw16771295499568265973:T:=t
theorem tw7650283484787511029:T:=t
theorem tw16754643870311390997:T:=t
theorem tw8658185699838806805:T:=t
theorem tw12347537446847802165:T:=t
theorem tw6524417157066176309:T:=t
theorem tw13781542876482819989:T:=t
theorem tw7856420140689306517:T:=t
theorem tw7057970582943232917:T:=t
theorem tw9578429878718019509:T:=t
theorem tw4891822661719351221:T:=t
theorem tw12076048789873493973:T:=t
theorem tw2537931557510868981:T:=t
theorem tw6878024787957991413:T:=t
theorem tw1128348596072947701:T:=t
theorem tw18363874247302488086:T:=t
theorem tw16437064521429036054:T:=t
theorem tw4759752924163587094:T:=t
theorem tw6712194924023145494:T:=t
theorem tw862447977868951606:T:=t
theorem tw10411508006071892022:T:=t
theorem tw13894747593318719542:T:=t
theorem tw1239743038759826550:T:=t
theorem tw7822013112032934038:T:=t
theorem tw3995266172827902102:T:=t
theorem tw7665662160710120598:T:=t
theorem tw8896352889252549814:T:=t
theorem tw4598667867955821814:T:=t
theorem tw9806666330580929782:T:=t
theorem tw9453873691999584502:T:=t
theorem tw4144819383078699286:T:=t
theorem tw17449020081951674710:T:=t
theorem tw7255982825651180886:T:=t
theorem tw7439575562449295702:T:=t
theorem tw4162185377826839926:T:=t
theorem tw783483362715066742:T:=t
theorem tw11680795503199820150:T:=t
theorem tw824797018042769846:T:=t
theorem tw17611727573569791414:T:=t
theorem tw9330868436908423606:T:=t
theorem tw13183061134860383702:T:=t
theorem tw333583748066197110:T:=t
theorem tw6127190174262240918:T:=t
theorem tw17512474026176034454:T:=t
theorem tw15399907426655090358:T:=t
theorem tw7348594602126897846:T:=t
theorem tw3263211703599914710:T:=t
theorem tw3810570522144960214:T:=t
theorem tw2910385600587045654:T:=t
theorem tw3839206501371402102:T:=t
theorem tw6498334528663615478:T:=t
theorem tw9544026089342320630:T:=t
theorem tw14895270292469626870:T:=t
theorem tw187941002565524503:T:=t
theorem tw15698005342984667159:T:=t
theorem tw16625790000389398615:T:=t
theorem tw1397303283331804279:T:=t
theorem tw9297318355482256503:T:=t
theorem tw1538076008739104887:T:=t
theorem tw8076651003907644567:T:=t
theorem tw2316539691658765527:T:=t
theorem tw7267163888087337239:T:=t
theorem tw3810338749695602999:T:=t
theorem tw14178952322520976695:T:=t
theorem tw18195182924450695511:T:=t
theorem tw294590611059691863:T:=t
theorem tw6690978737144721751:T:=t
theorem tw8383268338085895543:T:=t
theorem tw15619530173980987831:T:=t
theorem tw8668149382578428375:T:=t
theorem tw3683778510129048087:T:=t
theorem tw12952338173627110967:T:=t
theorem tw5266942916734154295:T:=t
theorem tw2377308710366028375:T:=t
theorem tw11024638832163780183:T:=t
theorem tw4306616734650971735:T:=t
theorem tw3738894495883498167:T:=t
theorem tw12977279227502587607:T:=t
theorem tw4302917861877037783:T:=t
theorem tw4218790737952374519:T:=t
theorem tw6532753360307331927:T:=t
theorem tw14658254696389335927:T:=t
theorem tw331587747771337591:T:=t
theorem tw5249893051879422871:T:=t
theorem tw14920341990273354679:T:=t
theorem tw7445452272831510455:T:=t
theorem tw11201512880063761335:T:=t
theorem tw4490852404376165303:T:=t
theorem tw114324938638158839:T:=t
theorem tw2466808103346753527:T:=t
theorem tw4898026214463823928:T:=t
theorem tw13838681890673545272:T:=t
theorem tw16955142331783759960:T:=t
theorem tw9597861255099599992:T:=t
theorem tw5074779506442595448:T:=t
theorem tw2789213428527533208:T:=t
theorem tw15590172107835277464:T:=t
theorem tw12239064139714945176:T:=t
theorem tw11821157177794564280:T:=t
theorem tw15380643337850499256:T:=t
theorem tw3395650296261689528:T:=t
theorem tw17659792820800573624:T:=t
theorem tw9917203430921899224:T:=t
theorem tw347816163483929816:T:=t
theorem tw7525613125554837784:T:=t
theorem tw2186698500278933816:T:=t
theorem tw13516622038369049944:T:=t
theorem tw10645374340479401304:T:=t
theorem tw1104087735260006872:T:=t
theorem tw5250828734511838712:T:=t
theorem tw13177410634674063896:T:=t
theorem tw16903924287465469464:T:=t
theorem tw4788878847521262168:T:=t
theorem tw17362494058136835672:T:=t
theorem tw5776136370200156792:T:=t
theorem tw876206183137641144:T:=t
theorem tw8281523328739849912:T:=t
theorem tw891448327626169016:T:=t
theorem tw4981356130055026392:T:=t
theorem tw5285785234609935064:T:=t
theorem tw9746214513668125432:T:=t
theorem tw9026956108355566328:T:=t
theorem tw1448885039305934584:T:=t
theorem tw6335709333293612952:T:=t
theorem tw11490603987736509336:T:=t
theorem tw17204297501091165112:T:=t
theorem tw12343934877155477432:T:=t
theorem tw11693106759165616088:T:=t
theorem tw12932903420030652473:T:=t
theorem tw1276194784268619833:T:=t
theorem tw16252508478716706905:T:=t
theorem tw15530281825414154361:T:=t
theorem tw4539171949673491577:T:=t
theorem tw8785817190682134681:T:=t
theorem tw2306873549167696089:T:=t
theorem tw8272817396058243321:T:=t
theorem tw17041991840579044601:T:=t
theorem tw3335054579961404729:T:=t
theorem tw2152167444364839225:T:=t
theorem tw5805905742469029177:T:=t
theorem tw7116698238491815225:T:=t
theorem tw6794536074604225881:T:=t
theorem tw18230178534529381785:T:=t
theorem tw3028926083550364057:T:=t
theorem tw17896612028031085017:T:=t
theorem tw6400248389586479577:T:=t
theorem tw10279692637995926009:T:=t
theorem tw12550770813317053977:T:=t
theorem tw3975253019698251321:T:=t
theorem tw1390109508276135513:T:=t
theorem tw8731306006301319769:T:=t
theorem tw4879674094562380441:T:=t
theorem tw6455845175183424153:T:=t
theorem tw1992996095170833049:T:=t
theorem tw17502855826952124057:T:=t
theorem tw9070704062992814841:T:=t
theorem tw14347400895652799225:T:=t
theorem tw3277210607324053241:T:=t
theorem tw8416529770105884409:T:=t
theorem tw6557400838089866009:T:=t
theorem tw3489958942724408121:T:=t
theorem tw13732859552379440985:T:=t
theorem tw8999559765510592377:T:=t
theorem tw13883070154070340634:T:=t
theorem tw16205109500356779066:T:=t
theorem tw4043148821406017626:T:=t
theorem tw13619204772191458394:T:=t
theorem tw1088692219920020602:T:=t
theorem tw18075230132384515194:T:=t
theorem tw4652505110207094938:T:=t
theorem tw5029745898896661690:T:=t
theorem tw4988848703289810138:T:=t
theorem tw6214469639950668122:T:=t
theorem tw7803649310394182010:T:=t
theorem tw9339408515151402362:T:=t
theorem tw14016782137374729594:T:=t
theorem tw14086030020076664218:T:=t
theorem tw12780881840741157306:T:=t
theorem tw5514125408013525434:T:=t
theorem tw1412798022092170682:T:=t
theorem tw12869217540446652890:T:=t
theorem tw7070210977369740762:T:=t
theorem tw12663102006800830970:T:=t
theorem tw12705944875615423002:T:=t
theorem tw7469950542288936506:T:=t
theorem tw8331973007464152698:T:=t
theorem tw13175226182763708026:T:=t
theorem tw15681417991851648634:T:=t
theorem tw12567809125941998234:T:=t
theorem tw16401934584784274106:T:=t
theorem tw12876064707754696378:T:=t
theorem tw7717670044629686970:T:=t
theorem tw9725021084223525626:T:=t
theorem tw12738864244801774330:T:=t
theorem tw1374033575008642842:T:=t
theorem tw15701818922362908474:T:=t
theorem tw7245382924358607706:T:=t
theorem tw13412572060209156058:T:=t
theorem tw17406136962360114138:T:=t
theorem tw14491005103267586010:T:=t
theorem tw6058378993454661626:T:=t
theorem tw16103849850496634939:T:=t
theorem tw8004206274103572539:T:=t
theorem tw4801982433088742459:T:=t
theorem tw12141802397888321627:T:=t
theorem tw8614777251421559899:T:=t
theorem tw5796354222422608987:T:=t
theorem tw1666694428299288667:T:=t
theorem tw10511823565363050587:T:=t
theorem tw13272504610945704091:T:=t
theorem tw81180840481494171:T:=t
theorem tw6341822008880759003:T:=t
theorem tw4100293265295638779:T:=t
theorem tw4570111826955561243:T:=t
theorem tw10553471711426338075:T:=t
theorem tw10684981021144957211:T:=t
theorem tw807531904560671035:T:=t
theorem tw16554438482525722971:T:=t
theorem tw15216479089859931547:T:=t
theorem tw10170948947761517979:T:=t
theorem tw9231107438714462619:T:=t
theorem tw9891439469210409403:T:=t
theorem tw2021336271155450331:T:=t
theorem tw8465276812761224699:T:=t
theorem tw8924392036579600891:T:=t
theorem tw11039862389202566683:T:=t
theorem tw17164383140453370395:T:=t
theorem tw3723988518540851739:T:=t
theorem tw15201286185872193147:T:=t
theorem tw5087414499874199163:T:=t
theorem tw9839346839192117915:T:=t
theorem tw16908780153626456763:T:=t
theorem tw1340732969908501211:T:=t
theorem tw7055459427971326715:T:=t
theorem tw9712136527352899355:T:=t
theorem tw3008263204520378139:T:=t
theorem tw18208264132641360667:T:=t
theorem tw9445451236469955387:T:=t
theorem tw14943911441677524827:T:=t
theorem tw10234915967203826555:T:=t
theorem tw13728267205206896507:T:=t
theorem tw9997704412844104603:T:=t
theorem tw1713156846745171867:T:=t
theorem tw8947099994592609211:T:=t
theorem tw5555312102172926907:T:=t
theorem tw5074984922658293691:T:=t
theorem tw7130589087949165531:T:=t
theorem tw6309580289441245147:T:=t
theorem tw7692301277026442203:T:=t
theorem tw10875463905939285979:T:=t
theorem tw111200028466390044:T:=t
theorem tw7890596953891613788:T:=t
theorem tw10682770612549562524:T:=t
theorem tw2503846163805864124:T:=t
theorem tw3721105441807439036:T:=t
theorem tw2087981047521295580:T:=t
theorem tw13423622936843584764:T:=t
theorem tw7278507554335971580:T:=t
theorem tw3812028171767442716:T:=t
theorem tw5663504974038819100:T:=t
theorem tw6768527794753136924:T:=t
theorem tw8261031787919469916:T:=t
theorem tw2366236672687842684:T:=t
theorem tw15309079848183770524:T:=t
theorem tw3955986520655104412:T:=t
theorem tw5231817061156067740:T:=t
theorem tw7779959011674639804:T:=t
theorem tw7177338460636591580:T:=t
theorem tw7976502392129159676:T:=t
theorem tw7163643146796875292:T:=t
theorem tw6289197191216398940:T:=t
theorem tw16340655207594038876:T:=t
theorem tw17861066769153400444:T:=t
theorem tw11432402860279490204:T:=t
theorem tw2440955330291467932:T:=t
theorem tw4723787954990577340:T:=t
theorem tw8370555248988390076:T:=t
theorem tw14752907821818930876:T:=t
theorem tw16237762584071213788:T:=t
theorem tw9746901515087519452:T:=t
theorem tw10782327089294195420:T:=t
theorem tw6232080684201472732:T:=t
theorem tw16256441300576474876:T:=t
theorem tw5901363791540438844:T:=t
theorem tw9747544060827109212:T:=t
theorem tw12291753297600562012:T:=t
theorem tw6340033436541877084:T:=t
theorem tw251868834278440796:T:=t
theorem tw12355744275394475900:T:=t
theorem tw11936995450923721628:T:=t
theorem tw7861780978402302908:T:=t
theorem tw11112386831996348380:T:=t
theorem tw6650461044873433052:T:=t
theorem tw4777830175859659740:T:=t
theorem tw14333544728242365436:T:=t
theorem tw2487034316364812284:T:=t
theorem tw11615019562542576733:T:=t
theorem tw14793013804824869981:T:=t
theorem tw6953265346914686045:T:=t
theorem tw9048390944144121981:T:=t
theorem tw1469139661183043837:T:=t
theorem tw544173102793226557:T:=t
theorem tw11228628497211110749:T:=t
theorem tw3456623496861543869:T:=t
theorem tw520194297998822909:T:=t
theorem tw1012361349325877821:T:=t
theorem tw11061592194353771069:T:=t
theorem tw3680538572021651005:T:=t
theorem tw5115476493328737885:T:=t
theorem tw895571856199123645:T:=t
theorem tw4013537778516871869:T:=t
theorem tw12649782002744950493:T:=t
theorem tw8126443298418566877:T:=t
theorem tw17260493314774615805:T:=t
theorem tw6068950659093879613:T:=t
theorem tw16307707646766795581:T:=t
theorem tw8344675336782298973:T:=t
theorem tw7995362448368537469:T:=t
theorem tw4719063310657182621:T:=t
theorem tw7451905468542833597:T:=t
theorem tw11906472874536768445:T:=t
theorem tw15688172546075569117:T:=t
theorem tw7193555501269276637:T:=t
theorem tw1346022578215293949:T:=t
theorem tw1613116972386908190:T:=t
theorem tw13511959964413161566:T:=t
theorem tw9610726530385051774:T:=t
theorem tw15373703851562958014:T:=t
theorem tw1819255440876223710:T:=t
theorem tw14245171486683049214:T:=t
theorem tw7773504467932542270:T:=t
theorem tw17233457631738950974:T:=t
theorem tw13326868189938593150:T:=t
theorem tw14969715616416898430:T:=t
theorem tw12221555665107904926:T:=t
theorem tw5598441983335636414:T:=t
theorem tw18362098788967529950:T:=t
theorem tw783796507600188894:T:=t
theorem tw6968583824967984638:T:=t
theorem tw6385529401280152062:T:=t
theorem tw10580198807604790814:T:=t
theorem tw4326780796455107134:T:=t
theorem tw17217429795192226366:T:=t
theorem tw13294311002278339166:T:=t
theorem tw8429034201219468894:T:=t
theorem tw2051409578822353534:T:=t
theorem tw1987541392991941342:T:=t
theorem tw6447930133964393182:T:=t
theorem tw1687847423629159134:T:=t
theorem tw17570509445847580414:T:=t
theorem tw3857263333814641470:T:=t
theorem tw2930532333115074398:T:=t
theorem tw2620492485814837118:T:=t
theorem tw7299242150946776990:T:=t
theorem tw846297522682114974:T:=t
theorem tw7470013935711676318:T:=t
theorem tw8439367832339070974:T:=t
theorem tw17795422810854671358:T:=t
theorem tw1014637456484912126:T:=t
theorem tw5292745204252695550:T:=t
theorem tw16975150828866795518:T:=t
theorem tw11227884535216515135:T:=t
theorem tw4180101509539245183:T:=t
theorem tw12851234836949525663:T:=t
theorem tw13411564433711520991:T:=t
theorem tw12237877928780879103:T:=t
theorem tw17628183408451194143:T:=t
theorem tw11177036383054605599:T:=t
theorem tw4547926851270420831:T:=t
theorem tw6707113841082798463:T:=t
theorem tw4785068964239711615:T:=t
theorem tw17698229166291050911:T:=t
theorem tw2608567993692976607:T:=t
theorem tw17784850919643140607:T:=t
theorem tw14541005305830221311:T:=t
theorem tw9682595657389325823:T:=t
theorem tw7552710137455990303:T:=t
theorem tw5169673773032560159:T:=t
theorem tw15530151957754944063:T:=t
theorem tw2236755162388048479:T:=t
theorem tw2711489104339610207:T:=t
theorem tw3558005061807245919:T:=t
theorem tw4265850918314828415:T:=t
theorem tw16592019574015783615:T:=t
theorem tw10323461325745473215:T:=t
theorem tw1547390860169783007:T:=t
theorem tw12829507556594621215:T:=t
theorem tw6951216239237536575:T:=t
theorem tw3459265974087741279:T:=t
theorem tw14497727239971306367:T:=t
theorem tw9711862698833617823:T:=t
theorem tw2888837374417270719:T:=t
theorem tw15240623583426463711:T:=t
theorem tw16510490156224867327:T:=t
theorem tw9591334339992821172:T:=t
theorem tw10747008713506698102:T:=t
theorem tw14090284624843534012:T:=t
end fin
noncomputable def kas:List Addr:=[2,3,15,17,18,20,21,22,23,24,25,27,28,30,31,32,35,36,37,38,39,40,41,42,43,44,45,46,47,48,49,50,51,52,53,54,55,56,57,58,61,62,63,64,65,66,67,68,69,70,71,72,73,74,75,76,77,78,79,80,81,82,83,84,85,86,87,88,89,90,91,92,93,94,95,96,97,98,99,100,101,102,103,104,105,106,107,108,109,110,111,112,113,114,115,116,117,118,119,120,121,122,123,124,125,126,127,128,129,130,131,132,133,134,135,136,137,138,139,140,141,143,144,146,147,148,150,151,153,154,155,157,158,160,161,162,164,165,167,168,176,178,179,181,182,183,185,186,188,189,190,191,192,193,194,204,206,207,209,210,211,213,214,216,217,218,219,220,221,222,232,234,235,237,238,239,241,242,244,245,246,247,248,249,250,260,262,263,265,266,267,270,271,272,273,274,275,276,286,288,289,291,292,293,295,296,298,299,300,301,302,303,304,314,316,317,319,320,321,323,324,326,327,328,329,330,331,332,342,344,345,347,348,349,351,352,354,355,356,359,360,361,364,365,366,368,369,371,372,373,375,376,378,379,380,382,383,385,386,387,389,390,392,393,394,396,397,399,400,401,403,404,406,407,408,410,411,413,414,415,417,418,420,421,422,424,425,427,428,429,431,432,434,435,436,439,440,441,442,443,444,445,448,451,452,453,455,456,458,459,460,463,464,465,472,474,475,477,478,479,480,481,482,485,492,493,494,497,499,500,502,503,504,505,506,507,508,509,510,511,516,518,519,521,522,523,524,525,526,527,528,529,530,531,532,533,534,535,536,537,538,540,541,543,544,545,547,548,550,551,552,555,556,557,559,560,562,563,564,566,567,569,570,571,573,574,576,577,578,580,581,583,584,585,587,588,590,591,599,601,602,604,605,606,608,609,611,612,613,615,616,618,619,620,621,622,623,624,627,629,630,632,633,634,636,637,639,640,641,644,645,646,648,649,651,652,653,655,656,658,659,660,663,664,665,667,668,670,671,672,674,675,677,678,686,688,689,691,692,693,695,696,698,699,700,702,703,705,706,707,709,710,712,713,714,716,717,719,720,721,723,724,726,727,728,730,731,733,734,735,737,738,740,741,742,743,744,745,746,756,758,759,761,762,763,765,766,768,769,770,772,773,775,776,777,779,780,782,783,784,786,787,789,790,791,793,794,796,797,798,801,802,803,805,806,808,809,810,812,813,815,816,817,819,820,822,823,824,826,827,829,830,831,833,834,836,837,838,841,842,843,845,846,848,849,850,853,854,855,857,858,860,861,862,863,864,865,866,869,871,872,874,875,876,877,879,880,882,883,884,885,887,888,890,891,892,893,894,895,896,897,898,899,900,901,902,903,904,905,906,907,908,909,910,911,912,913,914,915,916,917,918,919,920,921,922,923,924,925,926,927,928,929,930,932,933,935,936,937,939,940,942,943,944,946,947,949,950,951,953,954,956,957,958,961,962,963,966,967]
noncomputable abbrev Walk:Prop:=∀ {q:Program} {loose:List Str} {XP:(Str→Option Value)→Heap→Prop} {YP:World→Heap→Prop} {d:DefRec} {kwd:List (Str×Expr)},(∀ w h,YP w h→(kk.heap_1 w.params).In h)→d.name=s!"law" → importsNone q=true→A4G q loose XP YP PySem.Challenge.rw_nm0162_01.row.toRowW d kwd
set_option maxHeartbeats 0 in
set_option tactic.hygienic true in
set_option Elab.async true in
theorem fin [KW Walk]:PySem.Challenge.rw_nm0162_01.Holds:=by
  w_on
  o_law
  o_head (kHook kk.heap_1 kas (fun ξ=>by kernel_rfl))
  case hw=>w_witness2
  exact fun k=>k (fun w h Y=>kIn_of Y) rfl (by rfl)
noncomputable def YA (R:Flow→Shared→Prop)(r:Result)(s':Shared):Prop:=match r with
  | .ok f=>R f s'
  | .error _=>False
section
variable {prog:Program}{w:World}{A₀ A:Around}{s:Shared}{base h₀:Heap}{outer:List Env}{L:Addr}{m:Str→Option Value}{env:Env}{news:List (Addr×Obj)}
  {R:Flow→Shared→Prop} {name qual:Str} {params:Arguments} {body:List Stmt} {scope:Scope} {dV kV doc pm cdv ct:Value} {an:Option Addr} {fo:Obj} {f:Addr} {args:Args} {binds:List (Str×Value)}
theorem YD (B:Below A₀ base outer h₀)(F:Fr h₀ L s.heap m)(N:News h₀ L s.heap news)(hlim:h₀.NoLimit)(hA:A.frames=some (env::outer))(hf:env.frame=some L)(hke:env.scope.kind=.function)
    (ho:s.heap.get? f=some fo)(hd:fo.data=.func (fnX name qual params body scope [] dV kV doc pm an cdv ct))(hcd:s.heap.CodeRec cdv qual)(hroom:A.depth < recursionLimit)
    (hbind:BindsTo s (fnX name qual params body scope [] dV kV doc pm an cdv ct) args binds)
    (hkind:∀ n,∀ x∈binds,scope.names.lookup x.1=some .local∨(scope.names.lookup x.1=some .cell∧((cellsFrom n scope.names []).lookup x.1).isSome=true))
    (hnd:((cellsFrom 0 scope.names []).map (·.1)).Nodup)
    (h:∀ g L' h₁ tk cells,Fr h₀ L g m→Fr g L' h₁ (bindL (envOfC qual scope L' f cdv).kindOf binds fun ξ=>none)→News g L' h₁ (cells++news) →
      CellsAre (bindC (envOfC qual scope L' f cdv).kindOf binds fun ξ=>none) (cellsFrom (L' + 1) scope.names []) cells→Below A base (env::outer) g→h₀.StaysIn g→(∀ p∈news,p.1 < L') →
      wpR (model prog w) (A.deeper (envOfC qual scope L' f cdv)) (execs body (envOfC qual scope L' f cdv)) (fun fl s'=>LeaveK h₀ L m g (YA R) (match fl with | .ret v=>v | _=>.none) s') {s with heap:=h₁,toks:=tk})
    (hco:scope.isCoroutine=false)(hgen:scope.isGenerator=false)(hk:scope.kind=.function):Fx (model prog w) A (.call (.ref f) args) R s:=by
  obtain ⟨FG,BG,st,back⟩:=groundX (R:=YA R) B F N hA hf hke;refine Vr hroom ho hd hco hgen rfl hcd (hbind _ _ _ _ (wpAny_newFunctionEnv_cells hk (hkind _) fun env' he s' x=>?_));subst he;refine ⟨(hlim.keeps F.keep).keeps x.toInCall.keep,PL ?_⟩;obtain ⟨h₁,tk,rfl,_⟩:=x.done;have up:=x.toInCall.keep;obtain ⟨cells,NC,Y⟩:=Cl.news (h₀:=s.heap) (Nat.le_refl _) fun n c hm=>⟨x.cell n c (lookup_of_mem_nodup (cellsFrom_names scope.names 0 (s.heap.objs.size+1) [] [] rfl ▸ hnd) hm),x.above n c hm⟩;have N₁:News (hideAll s.heap (news.map (·.1))) s.heap.objs.size h₁ (cells++news):=fun p hp=>by
    rcases List.mem_append.mp hp with hp | hp
    · refine ⟨(NC p hp).1,(NC p hp).2.1,?_⟩
      cases q:(hideAll s.heap (news.map (·.1))).get? p.1 with
      | none=>rfl
      | some o=>have z:=of_hideAll _ q;rw [(NC p hp).2.2] at z;cases z
    · exact ⟨up _ _ (N p hp).1,Nat.ne_of_lt (Heap.lt_size (N p hp).1),hideAll_none _ (List.mem_map_of_mem hp)⟩
  have F₁:Fr (hideAll s.heap (news.map (·.1))) s.heap.objs.size h₁ (bindL (envOfC qual scope s.heap.objs.size f cdv).kindOf binds fun ξ=>none):=⟨x.toInCall.ns,fun b o e=>up b o (of_hideAll _ e),Nat.le_of_eq (hideAll_size _ _)⟩;exact Df (h _ s.heap.objs.size h₁ tk cells FG F₁ N₁ Y BG st fun p hp=>Heap.lt_size (N p hp).1) fun fl s' hl=>back _ _ hl
end
set_option tactic.hygienic true in
theorem A5K {G:Gl}{lv:Nat}{f:Addr}{name qual:Str}{params:Arguments}{body:List Stmt}{scope:Scope}{dV kV doc pm cdv ct oc:Value}{an od:Option Addr}{osl:Array (Option Value)}{t:TS}(ps vs:List Str)(hlv:0 < lv)
    (ho:G.K.lookup f=some ⟨oc,od,.func (fnOf name qual params body scope dV kV doc pm an cdv ct),osl⟩)(hcd:codeIn G.K cdv qual=true)
    (hbind:∀ vals:List Value,vals.length=ps.length→∀ h:Heap,G.K.In h→∀ s:Shared,s.heap=h→BindsTo s (fnOf name qual params body scope dV kV doc pm an cdv ct) ⟨vals,[]⟩ (ps.zip vals))
    (hkd:(ps.all fun y=>scope.names.lookup y == some .local || scope.names.lookup y == some .cell)=true)(hcn:((cellsFrom 0 scope.names []).map (·.1)).Nodup)(hpn:ps.Nodup)
    (hb:∀ L',RBk G (lv - 1) (envOfC qual scope L' f cdv) (ps++vs) body t)
    (hk:scope.kind=.function)(hco:scope.isCoroutine=false)(hgen:scope.isGenerator=false)   : RV G lv (.ref f) (AT ps.length vs.length t):=by
  intro A h₀ L m fx σ c s args vals Q Qc P ra q k;obtain ⟨hlen,q⟩:=q;obtain ⟨A₀,base,outer,fe,hB,hf,ho'⟩:=P.cx.fe;have hvl:vals.length=ps.length:=ra.length.symm.trans hlen;refine LS ?_;have hkd':((ps.zip vals).all fun y=>scope.names.lookup y.1 == some .local || scope.names.lookup y.1 == some .cell)=true:=by
    rw [List.all_eq_true];intro y hy;exact List.all_eq_true.mp hkd y.1 (List.of_mem_zip hy).1
  refine YD hB P.F P.N P.cx.T.nolimit hf ho'.frame ho'.kind (P.X _ _ ho) rfl (codeRec_of P.X hcd) (by have:=P.cx.dep;omega) (hbind vals hvl _ P.X s rfl) (kindsX hkd') hcn ?_ hco hgen hk;intro g L' h₁ tk cells FG F' N' Y B' st hlt;have hca:∀ q∈cells,∀ p∈c.ml++(c.pl++fx),p.1 < q.1:=by
    intro q hq p hp;have h1:q.1∈cells.map (·.1):=List.mem_map_of_mem hq;rw [FK Y] at h1;obtain ⟨z,hz,e⟩:=List.mem_map.mp h1;rcases (Cz scope.names (L' + 1) [] (by simp) (by simp)).2 z hz with h2 | h2
    · cases h2
    · rw [← e];exact Nat.lt_of_lt_of_le (hlt p hp) (Nat.le_of_succ_le h2)
  have hcnd:(cells.map (·.1)).Nodup:=by rw [FK Y];exact (Cz scope.names (L' + 1) [] (by simp) (by simp)).1
  have R₁:Rep G.hT g L' h₁ (bindL (envOfC qual scope L' f cdv).kindOf (ps.zip vals) fun _=>none) σ c (cells++fx):=by
    refine ⟨F',Cn N' fun p hp=>?_,Kh P.rep.nd hcnd hca,P.rep.so⟩;simp only [List.mem_append] at hp ⊢;rcases hp with hp | hp | hp | hp <;> simp [hp]
  have Cx':Cx G (lv - 1) (A.deeper (envOfC qual scope L' f cdv)) g L':=by
    refine ⟨fun b o e=>st b o (P.cx.st b o e),P.cx.hh,?_,?_,A,base,fe::outer,envOfC qual scope L' f cdv,B',Around.frames_deeper hf,rfl,hk,hgen,hco,rfl,rfl⟩
    · have:=P.cx.dep
      show A.depth+1+3 * (lv - 1)+110 < recursionLimit;omega
    · have:=P.cx.un
      show A.units+3+100 * (lv - 1)+100 < cLine;omega
  have hz:∀ (i:Nat) (av:AV),(args.map some++List.replicate vs.length none)[i]? = some (some av)→∃ x v,ps[i]? = some x∧vals[i]? = some v∧Rc G.hT c av v:=by
    intro i av e
    by_cases hi:i < (args.map some).length
    · rw [List.getElem?_append_left hi,List.getElem?_map,Option.map_eq_some_iff] at e
      obtain ⟨b,e,h2⟩:=e;cases h2;obtain ⟨v,h3,h4⟩:=ra.get e;have hi':i < ps.length:=by rw [List.length_map] at hi;omega
      exact ⟨ps[i],v,by simp [hi'],h3,h4⟩
    · rw [List.getElem?_append_right (Nat.not_lt.mp hi),List.getElem?_replicate] at e
      split at e <;> cases e
  have NR':NR G.hT (envOfC qual scope L' f cdv) (ps++vs) (args.map some++List.replicate vs.length none) L' (bindL (envOfC qual scope L' f cdv).kindOf (ps.zip vals) fun _=>none) (cells++fx) c:=by
    intro i av e;obtain ⟨x,v,h1,h2,h3⟩:=hz i av e;have hi:i < ps.length:=by rw [List.getElem?_eq_some_iff] at h1;exact h1.1
    refine ⟨x,v,by rw [List.getElem?_append_left hi];exact h1,h3,?_⟩;have hx:=List.all_eq_true.mp hkd x (List.mem_of_getElem? h1);rw [Bool.or_eq_true,beq_iff_eq,beq_iff_eq] at hx;rcases hx with hx | hx
    · have hk':=hx
      exact .loc hx rfl (Sp hx hpn hvl.symm (.inl ⟨h1,h2⟩))
    · have hk':(envOfC qual scope L' f cdv).kindOf x=some .cell:=hx
      have hsome:=cellsFrom_some (x:=x) scope.names (L' + 1) [] (.inl hx);obtain ⟨a,ha⟩:=Option.isSome_iff_exists.mp hsome;obtain ⟨o,h4,h5⟩:=GN Y ha;refine .cel hk' (.inl rfl) ha (List.mem_append.mpr (.inl h4)) ?_;rw [h5,So (by rw [hk'];simp) hpn hvl.symm (.inl ⟨h1,h2⟩)]
  have CE:∀ x,(envOfC qual scope L' f cdv).kindOf x=some .cell→∃ a o v₀,(envOfC qual scope L' f cdv).cells.lookup x=some a∧(a,o)∈cells∧o.data=.cell v₀:=by
    intro x hx;obtain ⟨a,ha⟩:=Option.isSome_iff_exists.mp (cellsFrom_some (x:=x) scope.names (L' + 1) [] (.inl hx));obtain ⟨o,h4,h5⟩:=GN Y ha;exact ⟨a,o,_,ha,h4,h5⟩
  refine hb L' (A.deeper (envOfC qual scope L' f cdv)) g L' _ cells fx _ σ c {s with heap:=h₁,toks:=tk} _ _ ⟨⟨Cx',R₁,NR'⟩,rfl,CE⟩ q ?_
  intro fl ρ' σ' m' cl' c' h' tk' fw q' P' l r;have R':News g L' h' (c'.ml++(c'.pl++fx)):=Cn P'.pl.rep.nw fun p hp=>by
    simp only [List.mem_append] at hp ⊢;rcases hp with hp | hp | hp <;> simp [hp]
  have fin:∀ a v,Q a σ'→Rc G.hT c' a v→LeaveK h₀ L m g (YA fun f s'=>match f with | .ret v=>Qc v s' | _=>False) v {s with heap:=h',toks:=tk'}:=by
    intro a v qa rv;refine leaveK_ P'.pl.rep.fr R' fun F₂ N₂=>?_;refine k a σ' v h' tk' c' qa ⟨F₂,N₂,?_,P'.pl.rep.so⟩ l rv;refine List.Nodup.sublist (List.Sublist.map _ ?_) P'.pl.rep.nd;exact List.Sublist.append_left (List.Sublist.append_left (List.sublist_append_right _ _) _) _
  cases r with
  | next=>exact fin _ _ q' .none
  | brk=>exact q'.elim
  | cont=>exact q'.elim
  | ret r=>exact fin _ _ q' r
noncomputable abbrev DK:=Nat→Sto→Option (Option AV)
section
variable {hT h₀:Heap}{L:Addr}{h h':Heap}{m:Str→Option Value}{σ:Sto}{c:Cs}{fx fx':Led}
theorem Rep.perm (r:Rep hT h₀ L h m σ c fx)(p:fx.Perm fx'):Rep hT h₀ L h m σ c fx':=by
  have hp:(c.ml++(c.pl++fx)).Perm (c.ml++(c.pl++fx')):=List.Perm.append_left _ (List.Perm.append_left _ p);exact ⟨r.fr,Cn r.nw fun q hq=>hp.mem_iff.mpr hq,(List.Perm.nodup_iff (List.Perm.map _ hp)).mp r.nd,r.so⟩
theorem Rep.drop {il:Led}(r:Rep hT h₀ L h m σ c (il++fx)):Rep hT h₀ L h m σ c fx:=by
  refine ⟨r.fr,Cn r.nw fun q hq=>?_,List.Nodup.sublist (List.Sublist.map _ ?_) r.nd,r.so⟩
  · simp only [List.mem_append] at hq ⊢
    rcases hq with hq | hq | hq <;> simp [hq]
  · exact List.Sublist.append_left (List.Sublist.append_left (List.sublist_append_right _ _) _) _
theorem Rep.il {il il':Led}(r:Rep hT h₀ L h m σ c (il++fx))(hk:∀ b o,b ∉ il.map (·.1)→h.get? b=some o→h'.get? b=some o)(hi:∀ p∈il',h'.get? p.1=some p.2)(ha:il'.map (·.1)=il.map (·.1)):Rep hT h₀ L h' m σ c (il'++fx):=by
  have hmem:∀ p∈il,p∈c.ml++(c.pl++(il++fx)):=fun p hp=>by simp [hp]
  have hnew:∀ b∈il.map (·.1),b≠L∧h₀.get? b=none:=fun b hb=>by
    obtain ⟨p,hp,rfl⟩:=List.mem_map.mp hb;exact (r.nw p (hmem p hp)).2
  have nd:=r.nd;have nd':((c.ml++(c.pl++(il'++fx))).map (·.1)).Nodup:=by
    simp only [List.map_append,ha] at nd ⊢;exact nd
  have hap:∀ p∈c.ml++(c.pl++fx),p.1 ∉ il.map (·.1):=by
    have key:((il++(c.ml++(c.pl++fx))).map (·.1)).Nodup:=by
      refine (List.Perm.nodup_iff (List.Perm.map _ ?_)).mp nd
      calc (c.ml++(c.pl++(il++fx))).Perm ((c.ml++c.pl)++il++fx):=by simp
        _ |>.Perm (il++(c.ml++c.pl)++fx):=List.Perm.append_right _ List.perm_append_comm
        _ |>.Perm (il++(c.ml++(c.pl++fx))):=by simp
    rw [List.map_append,List.nodup_append] at key;intro p hp hm;exact key.2.2 _ hm _ (List.mem_map_of_mem hp) rfl
  obtain ⟨oL,es,ep,hL,x⟩:=r.fr.ns;refine ⟨⟨⟨oL,es,ep,hk _ _ (fun hm=>(hnew L hm).1 rfl) hL,x⟩,fun b o e=>hk _ _ (fun hm=>?_) (r.fr.keep b o e),r.fr.above⟩,fun p hp=>?_,nd',r.so⟩
  · rw [(hnew b hm).2] at e;cases e
  · simp only [List.mem_append] at hp
    have old:p∈c.ml++(c.pl++fx)→h'.get? p.1=some p.2∧p.1≠L∧h₀.get? p.1=none:=fun q=>by
      have z:=r.nw p (by simp only [List.mem_append] at q ⊢;rcases q with q | q | q <;> simp [q]);exact ⟨hk _ _ (hap p q) z.1,z.2⟩
    rcases hp with hp | hp | hp | hp
    · exact old (by simp [hp])
    · exact old (by simp [hp])
    · exact ⟨hi p hp,hnew p.1 (ha ▸ List.mem_map_of_mem hp)⟩
    · exact old (by simp [hp])
theorem Rep.gone {il:Led}(r:Rep hT h₀ L h m σ c (il++fx))(hk:∀ b o,b ∉ il.map (·.1)→h.get? b=some o→h'.get? b=some o):Rep hT h₀ L h' m σ c fx:=by
  have hmem:∀ p∈il,p∈c.ml++(c.pl++(il++fx)):=fun p hp=>by simp [hp]
  have hnew:∀ b∈il.map (·.1),b≠L∧h₀.get? b=none:=fun b hb=>by
    obtain ⟨p,hp,rfl⟩:=List.mem_map.mp hb;exact (r.nw p (hmem p hp)).2
  have r':=r.drop;have hap:∀ p∈c.ml++(c.pl++fx),p.1 ∉ il.map (·.1):=by
    have key:((il++(c.ml++(c.pl++fx))).map (·.1)).Nodup:=by
      refine (List.Perm.nodup_iff (List.Perm.map _ ?_)).mp r.nd
      calc (c.ml++(c.pl++(il++fx))).Perm ((c.ml++c.pl)++il++fx):=by simp
        _ |>.Perm (il++(c.ml++c.pl)++fx):=List.Perm.append_right _ List.perm_append_comm
        _ |>.Perm (il++(c.ml++(c.pl++fx))):=by simp
    rw [List.map_append,List.nodup_append] at key;intro p hp hm;exact key.2.2 _ hm _ (List.mem_map_of_mem hp) rfl
  obtain ⟨oL,es,ep,hL,x⟩:=r.fr.ns;refine ⟨⟨⟨oL,es,ep,hk _ _ (fun hm=>(hnew L hm).1 rfl) hL,x⟩,fun b o e=>hk _ _ (fun hm=>?_) (r.fr.keep b o e),r.fr.above⟩,fun p hp=>⟨hk _ _ (hap p hp) (r'.nw p hp).1,(r'.nw p hp).2⟩,r'.nd,r'.so⟩;rw [(hnew b hm).2] at e;cases e
end
structure T9 (G:Gl) (tg:Expr→Prop) (I:Addr) (S:Nat→Led→Cs→Prop) (item:DK):Prop where
  mono:∀ {i:Nat} {il:Led} {c c':Cs},c.le c'→S i il c→S i il c'
  fld:∀ {i:Nat} {il:Led} {c:Cs},S i il c→∀ p∈il,∃ vs,p.2.data=.fields vs
  next:∀ {lv:Nat} {A:Around} {h₀:Heap} {L:Addr} {m:Str→Option Value} {fx:Led} {σ:Sto} {c:Cs} {s:Shared} {i:Nat} {il:Led} {a:AV},Pv G lv A h₀ L m (il++fx) σ c s→S i il c→item i σ = some (some a) →
    ∀ (target:Expr) (_:tg target) (Q:Value→Shared→Prop) (E:Value→Shared→Prop),(∀ v il' h' tk c',Rep G.hT h₀ L h' m σ c' (il'++fx)→c.le c'→S (i+1) il' c'→Rc G.hT c' a v→Q v {s with heap:=h',toks:=tk}) →
      wpAny (model G.prog G.w) A (pyNext (.ref I)) (fun r s₁=>∃ v,r=some v∧wpAny (model G.prog G.w) A (letOwnedTupleGo target (.ref I) v) (fun _ s₂=>Q v s₂) E s₁) E s
  done:∀ {lv:Nat} {A:Around} {h₀:Heap} {L:Addr} {m:Str→Option Value} {fx:Led} {σ:Sto} {c:Cs} {s:Shared} {i:Nat} {il:Led},Pv G lv A h₀ L m (il++fx) σ c s→S i il c→item i σ = some none →
    ∀ (Q:Option Value→Shared→Prop) (E:Value→Shared→Prop),(∀ h' tk,Rep G.hT h₀ L h' m σ c fx→Q none {s with heap:=h',toks:=tk})→wpAny (model G.prog G.w) A (pyNext (.ref I)) Q E s
  self:(∀ t,tg t)→∀ {A:Around} {s:Shared} {i:Nat} {il:Led} {c:Cs},S i il c→(∀ p∈il,s.heap.get? p.1=some p.2)→∀ (Q:Value→Shared→Prop) (E:Value→Shared→Prop),Q (.ref I) s→wpAny (model G.prog G.w) A (pyIter (.ref I)) Q E s
noncomputable def Qr:List String:=["enumerate","zip","dict_itemiterator","dict_reverseitemiterator","odict_iterator","itertools.zip_longest","itertools.pairwise"]
theorem G8 {M:Model}{A:Around}{E:Value→Shared→Prop}{s:Shared}{target:Expr}{I:Addr}{v:Value}{o:Obj}{n:String}{Q:Unit→Shared→Prop}(ho:s.heap.get? I=some o)(hc:o.cls=.type n)(hn:Qr.contains n=false)(h:Q () s) :
    wpAny M A (letOwnedTupleGo target (.ref I) v) Q E s:=by
  have key:∀ a:Addr,wpAny M A (do
      let o ← load I
      match o.cls,o.data with
      | .type n,.fields vs =>
        if Qr.contains n && vs[0]? == some (rawInt a) then
          rule "for.unpacks-the-owned-tuple"
          updateField I 0 .none
      | _,_=>pure ()) Q E s:=fun a=>by
    refine wpAny_bind (wpAny_load ho ?_);obtain (⟨oc,od,odat,osl⟩):=o;dsimp only at hc;subst hc;cases odat <;> first | exact wpAny_pure h | skip
    dsimp only;rw [hn,Bool.false_and];exact wpAny_pure h
  unfold letOwnedTupleGo;split
  · cases v <;> first | exact key _ | exact wpAny_pure h
  · cases v <;> first | exact key _ | exact wpAny_pure h
  · exact wpAny_pure h
theorem MV {h h':Heap}{I:Addr}{o:Obj}(hs:Heap.SameBut I h h'):∀ b x,b ∉ [(I,o)].map (·.1)→h.get? b=some x→h'.get? b=some x:=fun b x hb e=>(hs.2 b (ne1 hb)).trans e
theorem Nx {h h':Heap}{I:Addr}{o:Obj}(hs:Heap.ExtBut I h h'):∀ b x,b ∉ [(I,o)].map (·.1)→h.get? b=some x→h'.get? b=some x:=fun b x hb e=>hs b x (ne1 hb) e
noncomputable def GF (av:AV):DK:=fun i σ=>(AU σ av).map fun l=>l[i]?
noncomputable def VW (ds:List D):DK:=fun i ξ=>some ((ds[i]?).map .d)
noncomputable def A1P (x:Str):DK:=fun i ξ=>some ((x.cps[i]?).map fun ch=>.d (.str ⟨#[ch]⟩))
noncomputable def A1O (b:Array UInt8):DK:=fun i ξ=>some ((b[i]?).map fun o=>.d (.int (o.toNat:Int)))
noncomputable def HJ (n:Int):DK:=fun i ξ=>some (if (i:Int) < n then some (.d (.int i)) else none)
noncomputable def Of (av:AV):DK:=fun i σ=>(AU σ av).bind fun l=>match l[i]? with
  | none=>some none
  | some (.d x)=>some (some (.d (.tup [.int i,x])))
  | some (.loc _)=>none
section
variable {G:Gl}
noncomputable def SL (I:Addr)(hT:Heap)(av:AV)(i:Nat)(il:Led)(c:Cs):Prop:=∃ o l,il=[(I,o)]∧o.cls=.type "list_iterator" ∧ o.data=.fields #[.ref l,.int i 0]∧Rc hT c av (.ref l)
set_option tactic.hygienic true in
theorem SA {I:Addr}{av:AV}:T9 G (fun _=>True) I (SL I G.hT av) (GF av) where
  mono:=fun l ⟨o,a,h1,h2,h3,h4⟩=>⟨o,a,h1,h2,h3,Rc.mono l _ _ h4⟩
  fld:=fun ⟨o,a,h1,h2,h3,h4⟩ p hp=>by subst h1;rw [List.mem_singleton.mp hp];exact ⟨_,h3⟩
  next:=by
    intro lv A h₀ L m fx σ c s i il a P ⟨o,l,h1,h2,h3,h4⟩ e target _ Q E k;subst h1;have ho:s.heap.get? I=some o:=(P.rep.nwf (p:=(I,o)) (.head _)).1;obtain ⟨its,e1,e2⟩:=Option.map_eq_some_iff.mp e;obtain ⟨x,vs,kx,hx,g1,g2⟩:=Bo P h4 e1;cases hx;obtain ⟨v,hv,rv⟩:=g2.get e2;refine wpAny_pyNext_list_item ⟨o,ho,h2,h3⟩ (BV g1) (x:=v) (by rw [List.getElem?_toArray];exact hv) fun h' hit hs=>⟨v,rfl,?_⟩;obtain ⟨o',ho',hc',hd'⟩:=hit;refine G8 (s:={s with heap:=h'}) ho' hc' (by decide) ?_;exact k v [(I,o')] h' s.toks c (P.rep.il (MV hs) (fun p hp=>by rw [List.mem_singleton.mp hp];exact ho') rfl) (.refl c) ⟨o',l,rfl,hc',by rw [hd'],h4⟩ rv
  done:=by
    intro lv A h₀ L m fx σ c s i il P ⟨o,l,h1,h2,h3,h4⟩ e Q E k;subst h1;have ho:s.heap.get? I=some o:=(P.rep.nwf (p:=(I,o)) (.head _)).1;obtain ⟨its,e1,e2⟩:=Option.map_eq_some_iff.mp e;obtain ⟨x,vs,kx,hx,g1,g2⟩:=Bo P h4 e1;cases hx;refine wpAny_pyNext_list_end P.cx.hh ⟨o,ho,h2,h3⟩ (BV g1) ?_ fun h' hs=>k h' s.toks (P.rep.gone (Nx hs));simp only [List.getElem?_toArray,List.getElem?_eq_none_iff] at e2 ⊢;rw [← g2.length];exact e2
  self:=fun _ {_ _ _ _ _} ⟨o,a,h1,h2,h3,_⟩ hg Q E q=>by subst h1;exact wpAny_pyIter_listiter ⟨o,hg (I,o) (by simp),h2,h3⟩ q
noncomputable def ST (I:Addr)(hT:Heap)(ds:List D)(i:Nat)(il:Led)(c:Cs):Prop:=∃ o l,il=[(I,o)]∧o.cls=.type "tuple_iterator" ∧ o.data=.fields #[.ref l,.int i 0]∧Rc hT c (.d (.tup ds)) (.ref l)
set_option tactic.hygienic true in
theorem VY {I:Addr}{ds:List D}:T9 G (fun _=>True) I (ST I G.hT ds) (VW ds) where
  mono:=fun l ⟨o,a,h1,h2,h3,h4⟩=>⟨o,a,h1,h2,h3,Rc.mono l _ _ h4⟩
  fld:=fun ⟨o,a,h1,h2,h3,h4⟩ p hp=>by subst h1;rw [List.mem_singleton.mp hp];exact ⟨_,h3⟩
  next:=by
    intro lv A h₀ L m fx σ c s i il a P ⟨o,l,h1,h2,h3,h4⟩ e target _ Q E k;subst h1;have ho:s.heap.get? I=some o:=(P.rep.nwf (p:=(I,o)) (.head _)).1;obtain ⟨d,e1,rfl⟩:=Option.map_eq_some_iff.mp (Option.some.inj e);obtain ⟨x,vs,kx,hx,g1,g2⟩:=Hg h4;cases hx;obtain ⟨v,hv,rv⟩:=g2.get e1;refine wpAny_pyNext_tuple_item ⟨o,ho,h2,h3⟩ ⟨_,P.good g1,rfl,_,rfl⟩ (x:=v) (by rw [List.getElem?_toArray];exact hv) fun h' hit hs=>⟨v,rfl,?_⟩;obtain ⟨o',ho',hc',hd'⟩:=hit;refine G8 (s:={s with heap:=h'}) ho' hc' (by decide) ?_;exact k v [(I,o')] h' s.toks c (P.rep.il (MV hs) (fun p hp=>by rw [List.mem_singleton.mp hp];exact ho') rfl) (.refl c) ⟨o',l,rfl,hc',by rw [hd'],h4⟩ rv
  done:=by
    intro lv A h₀ L m fx σ c s i il P ⟨o,l,h1,h2,h3,h4⟩ e Q E k;subst h1;have ho:s.heap.get? I=some o:=(P.rep.nwf (p:=(I,o)) (.head _)).1;have e1:=Option.map_eq_none_iff.mp (Option.some.inj e);obtain ⟨x,vs,kx,hx,g1,g2⟩:=Hg h4;cases hx;refine wpAny_pyNext_tuple_end P.cx.hh ⟨o,ho,h2,h3⟩ ⟨_,P.good g1,rfl,_,rfl⟩ ?_ fun h' hs=>k h' s.toks (P.rep.gone (Nx hs));simp only [List.getElem?_toArray,List.getElem?_eq_none_iff] at e1 ⊢;rw [g2.length];exact e1
  self:=fun _ {_ _ _ _ _} ⟨o,a,h1,h2,h3,_⟩ hg Q E q=>by subst h1;exact wpAny_pyIter_tupleiter ⟨o,hg (I,o) (by simp),h2,h3⟩ q
noncomputable def SS (I:Addr)(ty:String)(x:Str)(i:Nat)(il:Led) (_:Cs):Prop:=∃ o t,il=[(I,o)]∧o.cls=.type ty∧o.data=.fields #[.str x t,.int i 0]
theorem Mf (x:Str):strIterType x = "str_ascii_iterator" ∨ strIterType x = "str_iterator" := by
  unfold strIterType;split
  · exact .inl rfl
  · exact .inr rfl
set_option tactic.hygienic true in
theorem VX {I:Addr}{x:Str}:T9 G (fun _=>True) I (SS I (strIterType x) x) (A1P x) where
  mono:=fun _ h=>h
  fld:=fun ⟨o,t,h1,h2,h3⟩ p hp=>by subst h1;rw [List.mem_singleton.mp hp];exact ⟨_,h3⟩
  next:=by
    intro lv A h₀ L m fx σ c s i il a P ⟨o,t,h1,h2,h3⟩ e target _ Q E k;subst h1;have ho:s.heap.get? I=some o:=(P.rep.nwf (p:=(I,o)) (.head _)).1;obtain ⟨ch,e1,rfl⟩:=Option.map_eq_some_iff.mp (Option.some.inj e);have fin:∀ ty,Qr.contains ty=false→strIterType x=ty→∀ h':Heap,h'.IsStrIter I ty x t (i+1)→Heap.SameBut I s.heap h' →
        ∃ v,some (Value.str ⟨#[ch]⟩ s.toks)=some v∧wpAny (model G.prog G.w) A (letOwnedTupleGo target (.ref I) v) (fun _ s₂=>Q v s₂) E {s with heap:=h',toks:=s.toks+1}:=by
      intro ty hty hx h' hit hs;obtain ⟨o',ho',hc',hd'⟩:=hit;refine ⟨_,rfl,G8 (s:={s with heap:=h',toks:=s.toks+1}) ho' hc' hty ?_⟩;exact k _ [(I,o')] h' (s.toks+1) c (P.rep.il (MV hs) (fun p hp=>by rw [List.mem_singleton.mp hp];exact ho') rfl) (.refl c) ⟨o',t,rfl,by rw [hc',hx],by rw [hd']⟩ (.str _ _)
    by_cases hx:strIterType x = "str_ascii_iterator"
    · rw [hx] at h2
      exact wpAny_pyNext_ascii_item ⟨o,ho,h2,h3⟩ e1 (fin _ (by decide) hx)
    · have hx':strIterType x = "str_iterator" := (Mf x).resolve_left hx
      rw [hx'] at h2;exact wpAny_pyNext_wide_item ⟨o,ho,h2,h3⟩ e1 (fin _ (by decide) hx')
  done:=by
    intro lv A h₀ L m fx σ c s i il P ⟨o,t,h1,h2,h3⟩ e Q E k;subst h1;have ho:s.heap.get? I=some o:=(P.rep.nwf (p:=(I,o)) (.head _)).1;have e1:=Option.map_eq_none_iff.mp (Option.some.inj e)
    by_cases hx:strIterType x = "str_ascii_iterator"
    · rw [hx] at h2
      exact wpAny_pyNext_ascii_end P.cx.hh ⟨o,ho,h2,h3⟩ e1 fun h' hs=>k h' s.toks (P.rep.gone (Nx hs))
    · have hx':strIterType x = "str_iterator" := (Mf x).resolve_left hx
      rw [hx'] at h2;exact wpAny_pyNext_wide_end P.cx.hh ⟨o,ho,h2,h3⟩ e1 fun h' hs=>k h' s.toks (P.rep.gone (Nx hs))
  self:=fun _ {_ _ _ _ _} ⟨o,t,h1,h2,h3⟩ hg Q E q=>by
    subst h1
    by_cases hx:strIterType x = "str_ascii_iterator"
    · rw [hx] at h2;exact wpAny_pyIter_striter_ascii ⟨o,hg (I,o) (by simp),h2,h3⟩ q
    · have hx':strIterType x = "str_iterator" := (Mf x).resolve_left hx
      rw [hx'] at h2;exact wpAny_pyIter_striter_wide ⟨o,hg (I,o) (by simp),h2,h3⟩ q
noncomputable def SB (I:Addr)(b:Array UInt8)(i:Nat)(il:Led) (_:Cs):Prop:=∃ o t,il=[(I,o)]∧o.cls=.type "bytes_iterator" ∧ o.data=.fields #[.bytes b t,.int i 0]
set_option tactic.hygienic true in
theorem Qb {I:Addr}{b:Array UInt8}:T9 G (fun _=>True) I (SB I b) (A1O b) where
  mono:=fun _ h=>h
  fld:=fun ⟨o,t,h1,h2,h3⟩ p hp=>by subst h1;rw [List.mem_singleton.mp hp];exact ⟨_,h3⟩
  next:=by
    intro lv A h₀ L m fx σ c s i il a P ⟨o,t,h1,h2,h3⟩ e target _ Q E k;subst h1;have ho:s.heap.get? I=some o:=(P.rep.nwf (p:=(I,o)) (.head _)).1;obtain ⟨ch,e1,rfl⟩:=Option.map_eq_some_iff.mp (Option.some.inj e);refine KBw.next_item ⟨o,ho,h2,h3⟩ e1 fun h' hit hs=>⟨_,rfl,?_⟩;obtain ⟨o',ho',hc',hd'⟩:=hit;refine G8 (s:={s with heap:=h',toks:=s.toks+1}) ho' hc' (by decide) ?_;exact k _ [(I,o')] h' (s.toks+1) c (P.rep.il (MV hs) (fun p hp=>by rw [List.mem_singleton.mp hp];exact ho') rfl) (.refl c) ⟨o',t,rfl,hc',by rw [hd']⟩ (.int _ _)
  done:=by
    intro lv A h₀ L m fx σ c s i il P ⟨o,t,h1,h2,h3⟩ e Q E k;subst h1;have ho:s.heap.get? I=some o:=(P.rep.nwf (p:=(I,o)) (.head _)).1;have e1:=Option.map_eq_none_iff.mp (Option.some.inj e);exact KBw.next_end P.cx.hh ⟨o,ho,h2,h3⟩ e1 fun h' hs=>k h' s.toks (P.rep.gone (Nx hs))
  self:=fun _ {_ _ _ _ _} ⟨o,t,h1,h2,h3⟩ hg Q E q=>by subst h1;exact KBw.pyIter_self ⟨o,hg (I,o) (by simp),h2,h3⟩ q
noncomputable def DX (x left:Int):Obj:={cls:=.type "range_iterator",dict:=none,data:=.fields #[rawInt x,rawInt left,rawInt 1],slots:=#[]}
noncomputable def SR (I:Addr)(n:Int)(i:Nat)(il:Led) (_:Cs):Prop:=il=[(I,DX i (n - i))]
set_option tactic.hygienic true in
theorem Xz {I:Addr}{n:Int}:T9 G (fun _=>True) I (SR I n) (HJ n) where
  mono:=fun _ h=>h
  fld:=fun h p hp=>by rw [h] at hp;rw [List.mem_singleton.mp hp];exact ⟨_,rfl⟩
  next:=by
    intro lv A h₀ L m fx σ c s i il a P h1 e target _ Q E k;obtain rfl:il=_:=h1;have ho:s.heap.get? I=some (DX i (n - i)):=(P.rep.nwf (p:=(I,DX i (n - i))) (.head _)).1;unfold HJ at e;split at e
    · rename_i hlt
      cases e;refine wpAny_pyNext_range_item (x:=(i:Int)) (left:=n - i) (step:=1) ho (by omega) fun h' hit hs=>⟨_,rfl,?_⟩;have hit':h'.get? I=some (DX ((i:Int)+1) (n - i - 1)):=hit;refine G8 (s:={s with heap:=h',toks:=s.toks+1}) hit' rfl (by decide) ?_;refine k _ [(I,DX ((i:Int)+1) (n - i - 1))] h' (s.toks+1) c (P.rep.il (MV hs) (fun p hp=>by rw [List.mem_singleton.mp hp];exact hit') rfl) (.refl c) ?_ (.int _ _);show [(I,DX ((i:Int)+1) (n - i - 1))]=[(I,DX ((i+1:Nat):Int) (n - ((i+1:Nat):Int)))];rw [show n - ((i+1:Nat):Int)=n - i - 1 by omega]
      rfl
    · cases e
  done:=by
    intro lv A h₀ L m fx σ c s i il P h1 e Q E k;obtain rfl:il=_:=h1;have ho:s.heap.get? I=some (DX i (n - i)):=(P.rep.nwf (p:=(I,DX i (n - i))) (.head _)).1;unfold HJ at e;split at e
    · cases e
    · rename_i hlt
      exact wpAny_pyNext_range_end (x:=(i:Int)) (left:=n - i) (step:=1) P.cx.hh ho (by omega) fun h' hs=>k h' s.toks (P.rep.gone (Nx hs))
  self:=fun _ {A s i il c} h hg Q E q=>by
    have h:il=_:=h;subst h;exact wpAny_pyIter_rangeiter (x:=(i:Int)) (left:=n - i) (step:=1) (hg (I,DX i (n - i)) (by simp)) q
end
theorem Rep.addF {hT h₀:Heap}{L:Addr}{h:Heap}{m:Str→Option Value}{σ:Sto}{c:Cs}{fx:Led}(r:Rep hT h₀ L h m σ c fx)(o:Obj)(hf:o.isFreed=false:=by rfl):Rep hT h₀ L (h.push o) m σ c ((h.objs.size,o)::fx):=by
  have N:=News.push r.fr r.nw o hf;refine ⟨r.fr.push o,Cn N fun p hp=>?_,?_,r.so⟩
  · simp only [List.mem_append,List.mem_cons] at hp ⊢
    rcases hp with hp | hp | hp | hp <;> simp [hp]
  · have key:(((h.objs.size,o)::(c.ml++(c.pl++fx))).map (·.1)).Nodup:=by
      rw [List.map_cons,List.nodup_cons];refine ⟨fun hm=>?_,r.nd⟩;obtain ⟨p,hp,e⟩:=List.mem_map.mp hm;have:=r.lt p hp;rw [e] at this;exact Nat.lt_irrefl _ this
    refine (List.Perm.nodup_iff (List.Perm.map _ ?_)).mp key;rw [← List.append_assoc,← List.append_assoc];exact List.perm_middle.symm
theorem Rep.drop2 {hT h₀:Heap}{L:Addr}{h:Heap}{m:Str→Option Value}{σ:Sto}{c:Cs}{p q:Addr×Obj}{fx:Led}(r:Rep hT h₀ L h m σ c (p::q::fx)):Rep hT h₀ L h m σ c (p::fx):=
  Rep.drop (il:=[q]) (r.perm (List.Perm.swap _ _ _))
noncomputable abbrev TI:=Lo→Sto→(DK→Sto→Prop)→Prop
noncomputable def DO (G:Gl)(lv:Nat)(env:Env)(vars:List Str)(tg:Expr→Prop)(e:Expr)(t:TI):Prop:=
  ∀ (A:Around) (h₀:Heap) (L:Addr) (m:Str→Option Value) (fx:Led) (ρ:Lo) (σ:Sto) (c:Cs) (s:Shared) (Q:DK→Sto→Prop) (Qc:Value→Shared→Prop) (E:Value→Shared→Prop),
    Pl G lv env vars A h₀ L m fx ρ σ c s→t ρ σ Q →
    (∀ item σ' I S il h' tk c',Q item σ'→Rep G.hT h₀ L h' m σ' c' (il++fx)→c.le c'→T9 G tg I S item→S 0 il c'→Qc (.ref I) {s with heap:=h',toks:=tk}) →
    wpAny (model G.prog G.w) A (eval e env) (fun x s₁=>wpAny (model G.prog G.w) A (pyIter x) Qc E s₁) E s
noncomputable def tIt (te:TE):TI:=fun ρ σ Q=>te ρ σ fun av σ₁=>match av with
  | .d (.tup ds)=>Q (VW ds) σ₁
  | .d (.str x)=>Q (A1P x) σ₁
  | .d (.bytes b)=>Q (A1O b) σ₁
  | av=>(AU σ₁ av).isSome=true∧Q (GF av) σ₁
theorem Wp {hT:Heap}{c:Cs}{b:Array UInt8}{v:Value}(h:Rc hT c (.d (.bytes b)) v):∃ t,v=.bytes b t:=by
  have h:Dn _ v (.bytes b):=h;cases h;exact ⟨_,rfl⟩
section
variable {G:Gl}{lv:Nat}{env:Env}{vars:List Str}
theorem I_it {e:Expr}{te:TE}(he:Au G lv env vars e te):DO G lv env vars (fun ξ=>True) e (tIt te):=by
  intro A h₀ L m fx ρ σ c s Q Qc E P q k;refine he A h₀ L m fx ρ σ c s _ _ E P q fun av σ₁ v h₁ tk₁ c₁ q₁ r₁ l₁ x₁=>?_;have P₁:Pv G lv A h₀ L m fx σ₁ c₁ {s with heap:=h₁,toks:=tk₁}:=⟨P.cx,r₁⟩
  try dsimp only at q₁
  split at q₁
  · obtain ⟨x,vs,n,rfl,h1,h2⟩:=Hg x₁
    exact wpAny_pyIter_tuple (s:={s with heap:=h₁,toks:=tk₁}) ⟨_,P₁.good h1,rfl,_,rfl⟩ (k _ _ _ _ [_] _ tk₁ c₁ q₁ (r₁.addF _) l₁ VY ⟨_,x,rfl,rfl,rfl,x₁⟩)
  · obtain ⟨t,rfl⟩:=DZ x₁
    exact wpAny_pyIter_strU (s:={s with heap:=h₁,toks:=tk₁}) (k _ _ _ _ [_] _ tk₁ c₁ q₁ (r₁.addF _) l₁ VX ⟨_,t,rfl,rfl,rfl⟩)
  · obtain ⟨t,rfl⟩:=Wp x₁
    exact KBw.pyIter_bytes (s:={s with heap:=h₁,toks:=tk₁}) (k _ _ _ _ [_] _ tk₁ c₁ q₁ (r₁.addF _) l₁ Qb ⟨_,t,rfl,rfl,rfl⟩)
  · obtain ⟨q₀,q₁⟩:=q₁
    obtain ⟨l,hl⟩:=Option.isSome_iff_exists.mp q₀;obtain ⟨x,vs,n,rfl,h1,h2⟩:=Bo P₁ x₁ hl;exact wpAny_pyIter_list (s:={s with heap:=h₁,toks:=tk₁}) (BV h1) (k _ _ _ _ [_] _ tk₁ c₁ q₁ (r₁.addF _) l₁ SA ⟨_,x,rfl,rfl,rfl,x₁⟩)
theorem PH {T:String}{pos:Pos}{args:List Expr}{ts:TEs}{A:Around}{h₀:Heap}{L:Addr}{m:Str→Option Value}{fx:Led}{ρ:Lo}{σ:Sto}{c:Cs}{s:Shared}{Q:List AV→Sto→Prop}{Qc:Value→Shared→Prop}{E:Value→Shared→Prop}
    (hs:Bw G lv env vars args ts)(hp:(backTo pos (starEach args env)).any (·.1)=false)(P:Pl G lv env vars A h₀ L m fx ρ σ c s)(q:ts ρ σ Q)
    (k:∀ l σ₁ vs h₁ tk₁ c₁,Q l σ₁→Rep G.hT h₀ L h₁ m σ₁ c₁ fx→c.le c₁→Rl G.hT c₁ l vs→wpAny (model G.prog G.w) A (call (.type T) vs) Qc E {s with heap:=h₁,toks:=tk₁}) :
    wpAny (model G.prog G.w) A (callWith pos (.type T) [] (backTo pos (starEach args env)) []) Qc E s:=
  callWith_of (P:=fun ξ=>True) (by rw [hp];rfl) (fun ξ ξ=>⟨.machine,.inr (.inl rfl),.now⟩) (M2 hp (hs pos A h₀ L m fx ρ σ c s _ _ E P q fun l σ₁ vs h₁ tk₁ c₁ q₁ r₁ l₁ x₁=>⟨trivial,k _ _ _ _ _ _ q₁ r₁ l₁ x₁⟩))
noncomputable def Mh (te:TE):TI:=fun ρ σ Q=>te ρ σ fun a σ₁=>match a with
  | .d (.int n)=>-(2 ^ 62)≤n∧n < 2 ^ 62∧Q (HJ n) σ₁
  | _=>False
set_option tactic.hygienic true in
theorem ZS (n:Int):HJ n=HJ (if 0 < n then n else 0):=by
  funext i σ
  unfold HJ
  by_cases h:0 < n
  · rw [if_pos h]
  · rw [if_neg h,if_neg (by omega),if_neg (by omega)]
set_option tactic.hygienic true in
theorem A23 {func e:Expr}{te:TE}{pos:Pos}(hf:Au G lv env vars func (tD (.val (.type "range"))))(he:Au G lv env vars e te)
    (hc:eval (.Call func [e] [] pos) env=(do callWith pos (← eval func env) [] (backTo pos (starEach [e] env)) (backToKw pos (keywordEach [] env))))(hp:(backTo pos (starEach [e] env)).any (·.1)=false)
    (hst:starEach [e] env=(false,eval e env)::starEach [] env):DO G lv env vars (fun _=>True) (.Call func [e] [] pos) (Mh te):=by
  intro A h₀ L m fx ρ σ c s Q Qc E P q k;refine Call_ (hf A h₀ L m fx ρ σ c s (fun a σ₁=>a=.d (.val (.type "range"))∧σ₁ = σ) _ E P ⟨rfl,rfl⟩ fun a σ₁ va h₁ tk₁ c₁ q₁ r₁ l₁ x₁=>?_) hc;obtain ⟨rfl,rfl⟩:=q₁;obtain rfl:=UE x₁;refine PH (WV he Yu hst) hp (P.next r₁ l₁) (Q:=fun l σ₂=>match l with
    | [a]=>(match a with
      | .d (.int n)=>-(2 ^ 62)≤n∧n < 2 ^ 62∧Q (HJ n) σ₂
      | _=>False)
    | _=>False) q ?_
  intro l σ₂ vs h₂ tk₂ c₂ q₂ r₂ l₂ x₂;split at q₂
  · split at q₂
    · rename_i n
      cases x₂ with
      | cons rx rr =>
        cases rr;obtain ⟨t,rfl⟩:=DY rx;obtain ⟨n1,n2,q₂⟩:=q₂;refine call_range_1 ?_;have R₃:=r₂.addF {cls:=.type "range",data:=.fields #[.int 0 tk₂,.int n t,.int 1 (tk₂ + 1)]};refine wpAny_pyIter_range (IsRange.new ..) (small_one (by omega) (by omega) n1 n2) ?_;have R₄:=R₃.addF {cls:=.type "range_iterator",data:=.fields #[rawInt 0,rawInt (Builtin.Range.rangeSize 0 n 1),rawInt 1]};rw [ZS] at q₂;refine k _ _ _ _ [_] _ _ c₂ q₂ (Rep.drop2 R₄) (l₁.trans l₂) Xz ?_;rw [rangeSize_one];unfold SR DX;simp
    · exact q₂.elim
  · exact q₂.elim
end
noncomputable abbrev TA:=AV→Lo→Sto→(Lo→Sto→Prop)→Prop
noncomputable def HY (G:Gl)(lv:Nat)(env:Env)(vars:List Str)(target:Expr)(t:TA):Prop:=
  ∀ (A:Around) (h₀:Heap) (L:Addr) (m:Str→Option Value) (cl fx:Led) (ρ:Lo) (σ:Sto) (c:Cs) (s:Shared) (a:AV) (v:Value) (Q:Lo→Sto→Prop) (Qc:Unit→Shared→Prop) (E:Value→Shared→Prop),
    PlS G lv env vars A h₀ L m cl fx ρ σ c s→Rc G.hT c a v→t a ρ σ Q →
    (∀ ρ' σ' m' cl' c' h' tk,Q ρ' σ'→PlS G lv env vars A h₀ L m' cl' fx ρ' σ' c' {s with heap:=h',toks:=tk}→c.le c'→Qc () {s with heap:=h',toks:=tk})→wpAny (model G.prog G.w) A (assign target env v) Qc E s
noncomputable def Hc (i:Nat):TA:=fun a ρ σ Q=>Q (ρ.set i (some a)) σ
noncomputable def UJ:List Nat→List D→Lo→Lo
  | i::is,d::ds,ρ=>UJ is ds (ρ.set i (some (.d d)))
  | _,_,ρ=>ρ
noncomputable def RM (is:List Nat):TA:=fun a ρ σ Q=>match a with
  | .d (.tup ds)=>ds.length=is.length∧Q (UJ is ds ρ) σ
  | _=>False
section
variable {G:Gl}{lv:Nat}{env:Env}{vars:List Str}
theorem A49 {i:Nat}{x:Str}{p:Pos}(he:BJ env)(hx:vars[i]? = some x)(hnd:vars.Nodup)(hk:env.kindOf x=some .local):HY G lv env vars (.Name x p) (Hc i):=by
  intro A h₀ L m cl fx ρ σ c s a v Q Qc E P ra q k;exact wpAny_assign_Name (KN he hx hnd hk P ra fun m' h' tk P'=>k _ _ _ _ _ _ _ q P' (.refl c))
noncomputable def Mn (env:Env)(vars:List Str):List Nat→List Expr→Prop
  | [],[]=>True
  | i::is,e::es=>(∃ x p,e=.Name x p∧vars[i]? = some x∧env.kindOf x=some .local)∧Mn env vars is es
  | _,_=>False
theorem SH:∀ {is:List Nat}{es:List Expr},Mn env vars is es→(assignEach es env).length=is.length∧(assignEach es env).findIdx? (·.1)=none
  | [],[],_=>⟨rfl,rfl⟩
  | i::is,e::es,⟨⟨x,p,h,_⟩,r⟩=>by
    subst h;obtain ⟨h1,h2⟩:=SH r;have e1:assignEach (.Name x p::es) env=(false,assign (.Name x p) env)::assignEach es env:=rfl;rw [e1];exact ⟨by rw [List.length_cons,List.length_cons,h1],by rw [List.findIdx?_cons];simp [h2]⟩
  | [],_::_,h=>h.elim
  | _::_,[],h=>h.elim
theorem W9 (he:BJ env)(hnd:vars.Nodup){A:Around}{h₀:Heap}{L:Addr}{fx:Led}{σ:Sto}{c:Cs}{Qc:Unit→Shared→Prop}{E:Value→Shared→Prop}:∀ {is:List Nat} {es:List Expr} {ds:List D} {vs:List Value} {m:Str→Option Value} {cl:Led} {ρ:Lo} {s:Shared},
    Mn env vars is es→Dns (Pm G.hT c.pl) vs ds→ds.length=is.length→PlS G lv env vars A h₀ L m cl fx ρ σ c s →
    (∀ m' h' tk,PlS G lv env vars A h₀ L m' cl fx (UJ is ds ρ) σ c {s with heap:=h',toks:=tk}→Qc () {s with heap:=h',toks:=tk})→wpAny (model G.prog G.w) A (assignInOrder ((assignEach es env).map (·.2)) vs) Qc E s:=by
  intro is
  induction is with
  | nil =>
    intro es ds vs m cl ρ s hn hd hl P k;cases es with
    | cons=>exact hn.elim
    | nil=>cases ds with
      | cons=>cases hl
      | nil=>cases hd;exact wpAny_pure (k m s.heap s.toks P)
  | cons i is ih =>
    intro es ds vs m cl ρ s hn hd hl P k;cases es with
    | nil=>exact hn.elim
    | cons e es=>cases ds with
      | nil=>cases hl
      | cons d ds =>
        obtain ⟨⟨x,p,rfl,h1,h2⟩,r⟩:=hn;cases hd with
        | @cons v vs _ _ hv hr =>
          show wpAny _ _ (do holding vs (assign (.Name x p) env v);assignInOrder ((assignEach es env).map (·.2)) vs) _ _ _;exact wpAny_bind (wpAny_holding (wpAny_assign_Name (KN he h1 hnd h2 P (a:=.d d) hv fun m' h' tk P'=>ih r hr (Nat.succ.inj hl) P' fun m₂ h₂ tk₂ P₂=>k m₂ h₂ tk₂ P₂)))
set_option tactic.hygienic true in
theorem G_tup {is:List Nat}{es:List Expr}{k₁:Nat}{p:Pos}(he:BJ env)(hnd:vars.Nodup)(hn:Mn env vars is es):HY G lv env vars (.Tuple es k₁ p) (RM is):=by
  intro A h₀ L m cl fx ρ σ c s a v Q Qc E P ra q k;unfold RM at q;split at q
  · rename_i ds
    obtain ⟨x,vs,n,rfl,h1,h2⟩:=Hg ra;obtain ⟨hl,q⟩:=q;obtain ⟨n1,n2⟩:=SH hn;refine wpAny_assign_Tuple P.pl.cx.hh ⟨_,P.pl.good h1,rfl,_,rfl⟩ (by rw [n1,List.size_toArray,h2.length,hl]) n2 fun h' hs=>?_;have R':Rep G.hT h₀ L h' m σ c (cl++fx):=Rep.gone (il:=[]) P.pl.rep fun b o _ e=>hs b o (Nat.ne_of_lt (Heap.lt_size e)) e;refine W9 he hnd hn h2 hl (P.next (tk:=s.toks) R' (.refl c)) fun m' h'' tk P'=>k _ _ _ _ _ _ _ q P' (.refl c)
  · exact q.elim
end
noncomputable def Hi (item:DK)(asg:TA)(body:TS):Nat→Nat→TS
  | 0,i=>fun ρ σ Q=>item i σ = some none∧Q .next ρ σ
  | n+1,i=>fun ρ σ Q=>match item i σ with
    | none=>False
    | some none=>Q .next ρ σ
    | some (some a)=>asg a ρ σ fun ρ' σ'=>body ρ' σ' fun fl ρ'' σ''=>match fl with
      | .next=>Hi item asg body n (i+1) ρ'' σ'' Q
      | .cont=>Hi item asg body n (i+1) ρ'' σ'' Q
      | .brk=>Q .next ρ'' σ''
      | .ret v=>Q (.ret v) ρ'' σ''
noncomputable def Gw (ti:TI)(asg:TA)(body:TS):TS:=fun ρ σ Q=>ti ρ σ fun item σ₁=>∃ n,Hi item asg body n 0 ρ σ₁ Q
set_option tactic.hygienic true in
theorem Qf {item:DK}{asg:TA}{body:TS}{n i:Nat}{ρ:Lo}{σ:Sto}{Q:Fl→Lo→Sto→Prop}(q:Hi item asg body n i ρ σ Q)(e:item i σ = some none):Q .next ρ σ:=by
  cases n with
  | zero=>exact q.2
  | succ n=>unfold Hi at q;rw [e] at q;exact q
theorem NF {item:DK}{asg:TA}{body:TS}{n i:Nat}{ρ:Lo}{σ:Sto}{Q:Fl→Lo→Sto→Prop}(q:Hi item asg body n i ρ σ Q)(e:item i σ = none):False:=by
  cases n with
  | zero=>have z:=q.1;rw [e] at z;cases z
  | succ n=>unfold Hi at q;rw [e] at q;exact q
set_option tactic.hygienic true in
theorem NE {item:DK}{asg:TA}{body:TS}{n i:Nat}{ρ:Lo}{σ:Sto}{a:AV}{Q:Fl→Lo→Sto→Prop}(q:Hi item asg body n i ρ σ Q)(e:item i σ = some (some a)):∃ k,n=k+1∧asg a ρ σ fun ρ' σ'=>body ρ' σ' fun fl ρ'' σ''=>match fl with
      | .next=>Hi item asg body k (i+1) ρ'' σ'' Q
      | .cont=>Hi item asg body k (i+1) ρ'' σ'' Q
      | .brk=>Q .next ρ'' σ''
      | .ret v=>Q (.ret v) ρ'' σ'':=by
  cases n with
  | zero=>have z:=q.1;rw [e] at z;cases z
  | succ n=>refine ⟨n,rfl,?_⟩;unfold Hi at q;rw [e] at q;exact q
section
variable {G:Gl}{lv:Nat}{env:Env}{vars:List Str}{A:Around}{h₀:Heap}{L:Addr}{m:Str→Option Value}{cl fx il:Led}{ρ:Lo}{σ:Sto}{c:Cs}{s:Shared}
theorem Ul (n:NR G.hT env vars ρ L m (cl++(il++fx)) c)(hf:∀ p∈il,∃ vs,p.2.data=.fields vs):NR G.hT env vars ρ L m (cl++fx) c:=by
  intro i av e;obtain ⟨x,v,h1,h2,h3⟩:=n i av e;have key:∀ {a:Addr} {o:Obj},(a,o)∈cl++(il++fx)→(∀ vs,o.data≠.fields vs)→(a,o)∈cl++fx:=by
    intro a o hm hn;simp only [List.mem_append] at hm ⊢;rcases hm with hm | hm | hm
    · exact .inl hm
    · obtain ⟨vs,hv⟩:=hf _ hm;exact absurd hv (hn vs)
    · exact .inr hm
  refine ⟨x,v,h1,h2,?_⟩;cases h3 with
  | loc a b d=>exact .loc a b d
  | blk a b d e =>
    refine .blk a (key b fun vs hv=>?_) d e;obtain ⟨es,ep,hd,_⟩:=d;rw [hd] at hv;cases hv
  | cel a b d e f=>exact .cel a b d (key e fun vs hv=>by rw [f] at hv;cases hv) f
theorem NR.more {x:Led}(n:NR G.hT env vars ρ L m (cl++fx) c):NR G.hT env vars ρ L m (cl++(x++fx)) c:=by
  intro i av e;obtain ⟨y,v,h1,h2,h3⟩:=n i av e;have key:∀ {p:Addr×Obj},p∈cl++fx→p∈cl++(x++fx):=fun hp=>by
    simp only [List.mem_append] at hp ⊢;rcases hp with hp | hp <;> simp [hp]
  refine ⟨y,v,h1,h2,?_⟩;cases h3 with
  | loc a b d=>exact .loc a b d
  | blk a b d e=>exact .blk a (key b) d e
  | cel a b d e f=>exact .cel a b d (key e) f
theorem PlS.addI {h':Heap}{tk:Nat}{σ':Sto}{c':Cs}(P:PlS G lv env vars A h₀ L m cl fx ρ σ c s)(r:Rep G.hT h₀ L h' m σ' c' (il++(cl++fx)))(l:c.le c'):PlS G lv env vars A h₀ L m cl (il++fx) ρ σ' c' {s with heap:=h',toks:=tk}:=
  ⟨⟨P.pl.cx,r.perm (List.perm_append_comm_assoc _ _ _),(P.pl.nr.mono l).more⟩,P.loc,P.ce⟩
theorem PlS.stepI {il':Led}{h':Heap}{tk:Nat}{c':Cs}(P:PlS G lv env vars A h₀ L m cl (il++fx) ρ σ c s)(hf:∀ p∈il,∃ vs,p.2.data=.fields vs)(r:Rep G.hT h₀ L h' m σ c' (il'++(cl++fx)))(l:c.le c'):PlS G lv env vars A h₀ L m cl (il'++fx) ρ σ c' {s with heap:=h',toks:=tk}:=
  ⟨⟨P.pl.cx,r.perm (List.perm_append_comm_assoc _ _ _),((Ul P.pl.nr hf).mono l).more⟩,P.loc,P.ce⟩
theorem PlS.gone {h':Heap}{tk:Nat}(P:PlS G lv env vars A h₀ L m cl (il++fx) ρ σ c s)(hf:∀ p∈il,∃ vs,p.2.data=.fields vs)(r:Rep G.hT h₀ L h' m σ c (cl++fx)):PlS G lv env vars A h₀ L m cl fx ρ σ c {s with heap:=h',toks:=tk}:=
  ⟨⟨P.pl.cx,r,Ul P.pl.nr hf⟩,P.loc,P.ce⟩
theorem PlS.same {il:Led}(P:PlS G lv env vars A h₀ L m cl (il++fx) ρ σ c s)(hf:∀ p∈il,∃ vs,p.2.data=.fields vs):PlS G lv env vars A h₀ L m cl fx ρ σ c s:=
  ⟨⟨P.pl.cx,Rep.drop (il:=il) (P.pl.rep.perm (List.perm_append_comm_assoc _ _ _)),Ul P.pl.nr hf⟩,P.loc,P.ce⟩
theorem PlS.pv (P:PlS G lv env vars A h₀ L m cl (il++fx) ρ σ c s):Pv G lv A h₀ L m (il++(cl++fx)) σ c s:=⟨P.pl.cx,P.pl.rep.perm (List.perm_append_comm_assoc _ _ _)⟩
end
inductive OQ (G:Gl) (lv:Nat) (env:Env) (vars:List Str) (A:Around) (h₀:Heap) (L:Addr) (fx:Led) (c₀:Cs) (s:Shared) (S:Nat→Led→Cs→Prop) (item:DK) (asg:TA) (body:TS) (Q:Fl→Lo→Sto→Prop) (n:Nat):Shared→Prop
  | mk (i:Nat) (ρ:Lo) (σ:Sto) (m:Str→Option Value) (cl:Led) (c:Cs) (il:Led) (h':Heap) (tk:Nat):PlS G lv env vars A h₀ L m cl (il++fx) ρ σ c {s with heap:=h',toks:=tk}→c₀.le c→S i il c→Hi item asg body n i ρ σ Q→OQ G lv env vars A h₀ L fx c₀ s S item asg body Q n {s with heap:=h',toks:=tk}
section
variable {G:Gl}{lv:Nat}{env:Env}{vars:List Str}
set_option tactic.hygienic true in
theorem S_for {target iter:Expr}{body:List Stmt}{pos:Pos}{ti:TI}{asg:TA}{tb:TS}{tg:Expr→Prop}(htg:tg target)(hi:DO G lv env vars tg iter ti)(hg:HY G lv env vars target asg)(hb:BE G lv env vars body tb)
    (hs:∀ x,foldedSetIterable iter env x=pure x):Ca G lv env vars (.For target iter body [] pos) (Gw ti asg tb):=by
  intro A h₀ L m cl fx ρ σ c s Q Qc E P q k;refine wpAny_For (hi A h₀ L m _ ρ σ c s _ _ E P.pl q fun item σ' I S il h' tk c' q' r' l' hI hS=>?_) hs;obtain ⟨n,q'⟩:=q';refine codeAny_forLoop_any (OQ G lv env vars A h₀ L fx c s S item asg tb Q) ?_ n ⟨0,ρ,σ',m,cl,c',il,h',tk,P.addI r' l',l',hS,q'⟩;rintro n _ (⟨i,ρ,σ,m,cl,c₁,il,h',tk,P,l,hS,q⟩);have Pi:=P.pv
  match e:item i σ with
  | none=>exact (NF q e).elim
  | some none =>
    refine hI.done Pi hS e _ _ fun h₂ tk₂ r₂=>?_;exact wpAny_execs_nil (k _ _ _ _ _ _ _ _ _ (Qf q e) (P.gone (hI.fld hS) r₂) l .next)
  | some (some a) =>
    obtain ⟨n,rfl,q₁⟩:=NE q e;refine wpAny_mono (hI.next Pi hS e target htg ?Q1 _ ?h1) ?h2 fun _ _ x=>x
    case h2 =>
      intro r s₁ hr;obtain ⟨v,rfl,hr⟩:=hr;exact hr
    case h1 =>
      intro v il₂ h₂ tk₂ c₂ r₂ l₂ hS₂ rv;exact hg A h₀ L m cl (il₂ ++ fx) ρ σ c₂ _ a v _ _ _ (P.stepI (hI.fld hS) r₂ l₂) rv q₁ fun ρ₃ σ₃ m₃ cl₃ c₃ h₃ tk₃ q₃ P₃ l₃=>hb A h₀ L m₃ cl₃ (il₂ ++ fx) ρ₃ σ₃ c₃ _ _ _ _ P₃ q₃ fun fl ρ₄ σ₄ m₄ cl₄ c₄ h₄ tk₄ f q₄ P₄ l₄ rf=>by
        have lall:=l.trans (l₂.trans (l₃.trans l₄));have hS₄:S (i+1) il₂ c₄:=hI.mono (l₃.trans l₄) hS₂;cases rf with
        | next=>exact ⟨n,Nat.lt_succ_self _,i+1,ρ₄,σ₄,m₄,cl₄,c₄,il₂,h₄,tk₄,P₄,lall,hS₄,q₄⟩
        | cont=>exact ⟨n,Nat.lt_succ_self _,i+1,ρ₄,σ₄,m₄,cl₄,c₄,il₂,h₄,tk₄,P₄,lall,hS₄,q₄⟩
        | brk=>exact k _ _ _ _ _ _ _ _ _ q₄ (P₄.same (hI.fld hS₄)) lall FlR.next
        | ret rr=>exact k _ _ _ _ _ _ _ _ _ q₄ (P₄.same (hI.fld hS₄)) lall (.ret rr)
set_option tactic.hygienic true in
theorem Zv {prog:Program}{w:World}{A:Around}{s:Shared}{R:Flow→Shared→Prop}{target:Expr}{it:Value}{body orelse:List Stmt}{env:Env}(I:Nat→Shared→Prop)
    (turn:∀ n s,I n s→wpR (model prog w) A (pyNext it) (fun r s₁=>match r with
      | none=>wpR (model prog w) A (execs orelse env) R s₁
      | some v=>wpR (model prog w) A (letOwnedTupleGo target it v) (fun _ s₁'=>wpR (model prog w) A (assign target env v) (fun _ s₂=>wpR (model prog w) A (execs body env) (fun f s₃=>match f with
          | .next=>∃ k,k < n∧I k s₃
          | .cont=>∃ k,k < n∧I k s₃
          | .brk=>R .next s₃
          | .ret v=>R (.ret v) s₃) s₂) s₁') s₁) s) (n:Nat) (h:I n s):Fx (model prog w) A (.forLoop target it body orelse env) R s:=by
  refine Xd rfl rfl I (fun n s hI=>?_) n h;show wpR _ A ((forTurn target it body orelse env).onRaise (fun x=>do noteFrame x env;theTreesLotGoes x)) _ s;refine Ip ?_;unfold forTurn;refine AA (Ci (AA (Ip (Df (turn n s hI) fun r s₁ h₁=>?_))));cases r with
  | none=>exact Bd (.inr ⟨rfl,Vq h₁⟩)
  | some v =>
    refine AA (Df h₁ fun _ s₁' h₁'=>AA (Df h₁' fun _ s₂ h₂=>AA (Df h₂ fun f s₃ h₃=>?_)));cases f with
    | next=>exact Bd (.inl ⟨rfl,h₃⟩)
    | cont=>exact Bd (.inl ⟨rfl,h₃⟩)
    | brk=>exact Bd h₃
    | ret v=>exact Bd h₃
set_option tactic.hygienic true in
theorem R_for {target iter:Expr}{body:List Stmt}{pos:Pos}{ti:TI}{asg:TA}{tb:TS}{tg:Expr→Prop}(htg:tg target)(hi:DO G lv env vars tg iter ti)(hg:HY G lv env vars target asg)(hb:RBk G lv env vars body tb)
    (hs:∀ x,foldedSetIterable iter env x=pure x):RS G lv env vars (.For target iter body [] pos) (Gw ti asg tb):=by
  intro A h₀ L m cl fx ρ σ c s Q Qc P q k;rw [exec_For];refine AA (Ci (AA (Cf (wpAny_mono (hi A h₀ L m _ ρ σ c s _ (fun it s₂=>Fx (model G.prog G.w) A (.forLoop target it body [] env) Qc s₂) _ P.pl q fun item σ' I S il h' tk c' q' r' l' hI hS=>?_) (fun x s₁ h₁=>?_) fun _ _ x=>x))))
  rotate_left
  · rw [hs x]
    refine AA (Bd (AA (Ci (AA (Cu (Df (Cf h₁) fun it s₂ h₂=>?_))))));unfold runOwn;exact Ip (R_run h₂)
  obtain ⟨n,q'⟩:=q';refine Zv (OQ G lv env vars A h₀ L fx c s S item asg tb Q) ?_ n ⟨0,ρ,σ',m,cl,c',il,h',tk,P.addI r' l',l',hS,q'⟩;rintro n _ (⟨i,ρ,σ,m,cl,c₁,il,h',tk,P,l,hS,q⟩);have Pi:=P.pv
  match e:item i σ with
  | none=>exact (NF q e).elim
  | some none =>
    refine Cf (hI.done Pi hS e _ _ fun h₂ tk₂ r₂=>?_);exact Cf (wpAny_execs_nil (k _ _ _ _ _ _ _ _ _ (Qf q e) (P.gone (hI.fld hS) r₂) l .next))
  | some (some a) =>
    obtain ⟨n,rfl,q₁⟩:=NE q e;refine Cf (wpAny_mono (hI.next Pi hS e target htg ?Q1 _ ?h1) ?h2 fun _ _ x=>x)
    case h2 =>
      intro r s₁ hr;obtain ⟨v,rfl,hr⟩:=hr;refine Cf ?_;exact hr
    case h1 =>
      intro v il₂ h₂ tk₂ c₂ r₂ l₂ hS₂ rv;exact Cf (hg A h₀ L m cl (il₂ ++ fx) ρ σ c₂ _ a v _ _ _ (P.stepI (hI.fld hS) r₂ l₂) rv q₁ fun ρ₃ σ₃ m₃ cl₃ c₃ h₃ tk₃ q₃ P₃ l₃=>hb A h₀ L m₃ cl₃ (il₂ ++ fx) ρ₃ σ₃ c₃ _ _ _ P₃ q₃ fun fl ρ₄ σ₄ m₄ cl₄ c₄ h₄ tk₄ f q₄ P₄ l₄ rf=>by
        have lall:=l.trans (l₂.trans (l₃.trans l₄));have hS₄:S (i+1) il₂ c₄:=hI.mono (l₃.trans l₄) hS₂;cases rf with
        | next=>exact ⟨n,Nat.lt_succ_self _,i+1,ρ₄,σ₄,m₄,cl₄,c₄,il₂,h₄,tk₄,P₄,lall,hS₄,q₄⟩
        | cont=>exact ⟨n,Nat.lt_succ_self _,i+1,ρ₄,σ₄,m₄,cl₄,c₄,il₂,h₄,tk₄,P₄,lall,hS₄,q₄⟩
        | brk=>exact k _ _ _ _ _ _ _ _ _ q₄ (P₄.same (hI.fld hS₄)) lall FlR.next
        | ret rr=>exact k _ _ _ _ _ _ _ _ _ q₄ (P₄.same (hI.fld hS₄)) lall (.ret rr))
end
noncomputable def fsD:List (Str×AV)→Option (List (Str×D))
  | []=>some []
  | (x,.d d)::r=>(fsD r).map ((x,d)::·)
  | (_,.loc _)::_=>none
theorem A1D:∀ {l:List (Str×AV)}{ds:List (Str×D)},fsD l=some ds→l=ds.map fun p=>(p.1,.d p.2)
  | [],ds,e=>by cases e;rfl
  | (x,.d d)::r,ds,e=>by
    simp only [fsD,Option.map_eq_some_iff] at e;obtain ⟨l',e',rfl⟩:=e;rw [A1D e'];rfl
  | (_,.loc _)::_,_,e=>by simp [fsD] at e
theorem A1E {P:Addr→Obj→Prop}{ad:List Addr}:∀ {es:List DictEntry} {fs:List (Str×D)},FsR (Rv P ad) (fs.map fun p=>(p.1,.d p.2)) es→DnF P es fs
  | _,[],.nil=>.nil
  | _,_::_,.cons h r=>.cons h (A1E r)
noncomputable def frz (a:AV)(σ:Sto):Option (D×Sto):=match a with
  | .d x=>some (x,σ)
  | .loc n=>match σ[n]? with
    | some (.list l)=>(Ez l).map fun ds=>(.lst ds,σ.set n .dead)
    | some (.inst C fs)=>(fsD fs).map fun ds=>(.obj C ds,σ.set n .dead)
    | _=>none
set_option tactic.hygienic true in
theorem Rep.frz {hT h₀:Heap}{L:Addr}{h:Heap}{m:Str→Option Value}{σ σ':Sto}{c:Cs}{fx:Led}{a:AV}{v:Value}{x:D}(r:Rep hT h₀ L h m σ c fx)(rv:Rc hT c a v)(e:Mine.frz a σ = some (x,σ')) :
    ∃ c',Rep hT h₀ L h m σ' c' fx∧c.le c'∧Rc hT c' (.d x) v:=by
  cases a with
  | d y=>cases e;exact ⟨c,r,.refl c,rv⟩
  | loc n =>
    obtain ⟨b,hb,rfl⟩:=rv;have move:∀ {pre mid post:Led},c.ml=pre++(mid++post)→(c.ml++(c.pl++fx)).Perm ((pre++post)++((mid++c.pl)++fx)):=by
      intro pre mid post e;rw [e];simp only [List.append_assoc];refine List.Perm.append_left _ ?_;exact List.perm_append_comm_assoc _ _ _
    have go:∀ {o:SO} {pre mid post:Led} {ad:List Addr},c.ml=pre++(mid++post)→SOs (Rc hT c) (σ.set n .dead) c.ad (pre++([]++post))→Rep hT h₀ L h m (σ.set n .dead) {ad:=c.ad,ml:=pre++post,pl:=mid++c.pl} fx:=by
      intro _ pre mid post _ e so;have p:=move (pre:=pre) (mid:=mid) (post:=post) e;refine ⟨r.fr,Cn r.nw fun q hq=>p.mem_iff.mpr hq,(List.Perm.nodup_iff (List.Perm.map _ p)).mp r.nd,?_⟩;exact SOs.mono (Rc.mono (c':={ad:=c.ad,ml:=pre++post,pl:=mid++c.pl}) ⟨⟨[],by simp⟩,fun p hp=>List.mem_append.mpr (.inr hp)⟩) so
    unfold Mine.frz at e;dsimp only at e;split at e
    · rename_i l hl
      obtain ⟨ds,e1,e2⟩:=Option.map_eq_some_iff.mp e;cases e2;obtain ⟨a,pre,mid,post,h1,h2,h3,h4⟩:=r.so.at_ hl;obtain rfl:a=b:=by rw [h1] at hb;exact Option.some.inj hb
      have so:=h4 .dead [] rfl;obtain ⟨vs,k,x,rfl⟩:=h3;rw [IM e1] at x;refine ⟨_,go (o:=.dead) (ad:=[]) h2 so,⟨⟨[],by simp⟩,fun p hp=>by simp [hp]⟩,?_⟩;exact .lst (.inl (.head _)) ((IC x).mono (Pm.mono fun p hp=>by simp [hp]))
    · rename_i C fs hl
      obtain ⟨ds,e1,e2⟩:=Option.map_eq_some_iff.mp e;cases e2;obtain ⟨a,pre,mid,post,h1,h2,h3,h4⟩:=r.so.at_ hl;obtain rfl:a=b:=by rw [h1] at hb;exact Option.some.inj hb
      have so:=h4 .dead [] rfl;obtain ⟨dx,es,k,x,rfl⟩:=h3;rw [A1D e1] at x;refine ⟨_,go (o:=.dead) (ad:=[]) h2 so,⟨⟨[],by simp⟩,fun p hp=>by simp [hp]⟩,?_⟩;exact .obj (.inl (.head _)) (.inl (.tail _ (.head _))) ((A1E x).mono (Pm.mono fun p hp=>by simp [hp]))
    · cases e
noncomputable def tFz (t:TE):TE:=fun ρ σ Q=>t ρ σ fun a σ'=>match frz a σ' with
  | some (x,σ'')=>Q (.d x) σ''
  | none=>False
noncomputable def ON (i:Nat)(t:TS):TS:=fun ρ σ Q=>match ρ[i]? with
  | some (some a)=>(match frz a σ with
    | some (x,σ')=>t (ρ.set i (some (.d x))) σ' Q
    | none=>False)
  | _=>False
section
variable {G:Gl}{lv:Nat}{env:Env}{vars:List Str}
set_option tactic.hygienic true in
theorem S_Fz {e:Expr}{t:TE}(h:Au G lv env vars e t):Au G lv env vars e (tFz t):=by
  intro A h₀ L m fx ρ σ c s Q Qc E P q k;refine h A h₀ L m fx ρ σ c s _ _ E P q fun a σ₁ v h₁ tk₁ c₁ q₁ r₁ l₁ x₁=>?_
  try dsimp only at q₁
  split at q₁
  · rename_i e
    obtain ⟨c₂,r₂,l₂,x₂⟩:=r₁.frz x₁ e;exact k _ _ _ h₁ tk₁ c₂ q₁ r₂ (l₁.trans l₂) x₂
  · exact q₁.elim
set_option tactic.hygienic true in
theorem fzV {A:Around}{h₀:Heap}{L:Addr}{m:Str→Option Value}{cl fx:Led}{ρ:Lo}{σ σ':Sto}{c:Cs}{s:Shared}{i:Nat}{a:AV}{x:D}(P:PlS G lv env vars A h₀ L m cl fx ρ σ c s)(e:ρ[i]? = some (some a))(e':frz a σ = some (x,σ')) :
    ∃ c',PlS G lv env vars A h₀ L m cl fx (ρ.set i (some (.d x))) σ' c' s∧c.le c':=by
  obtain ⟨y,v,h1,h2,h3⟩:=P.pl.nr i a e;obtain ⟨c',r,l,xx⟩:=P.pl.rep.frz h2 e';refine ⟨c',⟨⟨P.pl.cx,r,fun j av ej=>?_⟩,P.loc,P.ce⟩,l⟩;rw [List.getElem?_set] at ej;split at ej
  · rename_i hj
    subst hj;split at ej
    · cases ej;exact ⟨y,v,h1,xx,h3⟩
    · cases ej
  · obtain ⟨z,u,g1,g2,g3⟩:=P.pl.nr j av ej
    exact ⟨z,u,g1,Rc.mono l _ _ g2,g3⟩
set_option tactic.hygienic true in
theorem S_FzV {i:Nat}{b:List Stmt}{t:TS}(h:BE G lv env vars b t):BE G lv env vars b (ON i t):=by
  intro A h₀ L m cl fx ρ σ c s Q Qc E P q k;unfold ON at q;split at q
  · rename_i a e
    split at q
    · rename_i x σ' e'
      obtain ⟨c',P',l⟩:=fzV P e e';exact h A h₀ L m cl fx _ _ c' s Q Qc E P' q fun fl ρ' σ' m' cl' c2 h2 tk2 f q2 p2 l2 r2=>k fl ρ' σ' m' cl' c2 h2 tk2 f q2 p2 (l.trans l2) r2
    · exact q.elim
  · exact q.elim
set_option tactic.hygienic true in
theorem R_FzV {i:Nat}{b:List Stmt}{t:TS}(h:RBk G lv env vars b t):RBk G lv env vars b (ON i t):=by
  intro A h₀ L m cl fx ρ σ c s Q Qc P q k;unfold ON at q;split at q
  · rename_i a e
    split at q
    · rename_i x σ' e'
      obtain ⟨c',P',l⟩:=fzV P e e';exact h A h₀ L m cl fx _ _ c' s Q Qc P' q fun fl ρ' σ' m' cl' c2 h2 tk2 f q2 p2 l2 r2=>k fl ρ' σ' m' cl' c2 h2 tk2 f q2 p2 (l.trans l2) r2
    · exact q.elim
  · exact q.elim
end
noncomputable def G2 (item:DK)(fr:Lo)(tt:TT)(te:TE):Nat→Nat→Sto→List AV→(List AV→Sto→Prop)→Prop
  | 0,i,σ,acc,K=>item i σ = some none∧K acc σ
  | n+1,i,σ,acc,K=>match item i σ with
    | none=>False
    | some none=>K acc σ
    | some (some a)=>tt (some a::fr) σ fun b σ'=>match b with
      | true=>te (some a::fr) σ' fun y σ''=>G2 item fr tt te n (i+1) σ'' (acc++[y]) K
      | false=>G2 item fr tt te n (i+1) σ' acc K
noncomputable def Eg (ti:TI)(fr:List Nat)(tt:TT)(te:TE):TE:=fun ρ σ Q=>ti ρ σ fun item σ₁=>∃ n,n≤sizeLine∧G2 item (fr.map fun i=>(ρ[i]?).join) tt te n 0 σ₁ [] fun l σ₂=>Q (.loc σ₂.length) (σ₂ ++ [.list l])
noncomputable abbrev A33 (ifs:List Expr) (env:Env):Sem Bool:=forIn ifs true fun c r=>if r=true then do let ok ← isTrue c env (eval c env);pure (ForInStep.yield ok) else pure (ForInStep.yield r)
noncomputable abbrev FF (G:Gl) (lv:Nat) (env:Env) (vars:List Str) (ifs:List Expr) (t:TT):Prop:=FZ G lv env vars (A33 ifs env) Bool Rb t
section
variable {G:Gl}{lv:Nat}{env:Env}{vars:List Str}
theorem S_if0:FF G lv env vars [] Eh:=fun ξ ξ ξ ξ ξ ξ ξ c s ξ ξ ξ P q k=>wpAny_tests_nil (k _ _ _ s.heap s.toks c q P.rep (.refl c) rfl)
theorem S_if1 {e:Expr}{t:TT}(h:Dg G lv env vars e t):FF G lv env vars [e] t:=fun A h₀ L m fx ρ σ c s Q Qc E P q k=>wpAny_tests_one (h A h₀ L m fx ρ σ c s Q Qc E P q k)
theorem A6d {item:DK}{fr:Lo}{tt:TT}{te:TE}{n i:Nat}{σ:Sto}{acc:List AV}{K:List AV→Sto→Prop}(q:G2 item fr tt te n i σ acc K)(e:item i σ = some none):K acc σ:=by
  cases n with
  | zero=>exact q.2
  | succ n=>unfold G2 at q;rw [e] at q;exact q
theorem A3I {item:DK}{fr:Lo}{tt:TT}{te:TE}{n i:Nat}{σ:Sto}{acc:List AV}{K:List AV→Sto→Prop}(q:G2 item fr tt te n i σ acc K)(e:item i σ = none):False:=by
  cases n with
  | zero=>have z:=q.1;rw [e] at z;cases z
  | succ n=>unfold G2 at q;rw [e] at q;exact q
theorem A3H {item:DK}{fr:Lo}{tt:TT}{te:TE}{n i:Nat}{σ:Sto}{acc:List AV}{a:AV}{K:List AV→Sto→Prop}(q:G2 item fr tt te n i σ acc K)(e:item i σ = some (some a)):∃ k,n=k+1∧tt (some a::fr) σ fun b σ'=>match b with
      | true=>te (some a::fr) σ' fun y σ''=>G2 item fr tt te k (i+1) σ'' (acc++[y]) K
      | false=>G2 item fr tt te k (i+1) σ' acc K:=by
  cases n with
  | zero=>have z:=q.1;rw [e] at z;cases z
  | succ n=>refine ⟨n,rfl,?_⟩;unfold G2 at q;rw [e] at q;exact q
theorem XM {M:Model}{A:Around}{E:Value→Shared→Prop}{s:Shared}{t:Sem (Option Value)}{target:Expr}{it:Value}{Q:Value→Shared→Prop}(h:wpAny M A t (fun r s₁=>∃ v,r=some v∧wpAny M A (letOwnedTupleGo target it v) (fun ξ s₂=>Q v s₂) E s₁) E s)(e:∀ v,letOwnedTupleGo target it v=pure ()) :
    wpAny M A t (fun r s₁=>∃ v,r=some v∧Q v s₁) E s:=
  fun Γ p hΓ=>Sem.wp_mono M Γ t (fun r p' s' ⟨v,hr,hw⟩=>⟨v,hr,by rw [e] at hw;exact hw Γ p' hΓ⟩) (fun ξ ξ ξ x=>x) p s (h Γ p hΓ)
end
theorem Rep.own {hT h₀:Heap}{L:Addr}{h:Heap}{m:Str→Option Value}{σ:Sto}{c:Cs}{fx:Led}{D:Addr}{ys:List Value}{n:Nat}{acc:List AV}(r:Rep hT h₀ L h m σ c ((D,listOf ys.toArray n)::fx)) (x:B1 (Rc hT c) acc ys) :
    Rep hT h₀ L h m (σ ++ [.list acc]) {c with ad:=c.ad++[D],ml:=c.ml++[(D,listOf ys.toArray n)]} fx:=by
  have p:(c.ml++(c.pl++((D,listOf ys.toArray n)::fx))).Perm ((c.ml++[(D,listOf ys.toArray n)])++(c.pl++fx)):=by
    rw [List.append_assoc];exact List.Perm.append_left _ List.perm_middle
  refine ⟨r.fr,Cn r.nw fun q hq=>p.mem_iff.mpr hq,(List.Perm.nodup_iff (List.Perm.map _ p)).mp r.nd,?_⟩;have l:c.le {c with ad:=c.ad++[D],ml:=c.ml++[(D,listOf ys.toArray n)]}:=⟨⟨[D],rfl⟩,fun ξ h=>h⟩
  exact (r.so.mono (Rc.mono l)).append (.one ⟨_,_,x.mono (Rc.mono l),rfl⟩)
structure IA (env:Env) (scope:Scope) (cl:List (Str×Addr)) (vars frn:List Str) (fr:List Nat):Prop where
  names:fr.map (vars[·]?)=frn.map some
  kind:∀ y∈frn,scope.names.lookup y=some .free∧env.kindOf y=some .cell∧cl.lookup y=env.cells.lookup y
theorem UF {scope:Scope}{env:Env}{y:Str}(hk:env.scope.kind=.function)(h:scope.names.lookup y=some .free)(he:env.kindOf y=some .cell):(relabel scope env).names.lookup y=some .cell:=by
  unfold relabel;dsimp only;generalize scope.names=names at h
  induction names with
  | nil=>cases h
  | cons p r ih =>
    obtain (⟨n,k⟩):=p;rw [List.map_cons];rw [List.lookup_cons] at h;cases hx:y == n with
    | true =>
      rw [hx] at h;cases h;have:y=n:=beq_iff_eq.mp hx;subst this;simp [hk,he]
    | false =>
      rw [hx] at h;have e1:∀ k',List.lookup y ((n,k')::r.map fun (x:Str×NameKind)=>if (x.2 == .free && env.scope.kind == .function && env.kindOf x.1 == some .cell) then (x.1,.cell) else (x.1,x.2))=List.lookup y (r.map fun (x:Str×NameKind)=>if (x.2 == .free && env.scope.kind == .function && env.kindOf x.1 == some .cell) then (x.1,.cell) else (x.1,x.2)):=fun k'=>by rw [List.lookup_cons,hx]
      split
      · exact (e1 _).trans (ih h)
      · exact (e1 _).trans (ih h)
section
variable {G:Gl}{lv:Nat}{env:Env}{vars:List Str}
theorem A3J {A:Around}{h₀:Heap}{L C:Addr}{m mc:Str→Option Value}{fx fx':Led}{ρ:Lo}{c:Cs}{scope:Scope}{cl:List (Str×Addr)}{frn:List Str}{fr:List Nat}{x:Str}{a:AV}{v:Value}{oC:Obj}
    (hk:env.scope.kind=.function)(hf:IA env scope cl vars frn fr)(hx:scope.names.lookup x=some .local)(n:NR G.hT env vars ρ L m fx c)(hsub:∀ p∈fx,p∈fx')(hC:(C,oC)∈fx')(hn:NsObj oC mc)(hm:mc x=some v)(ra:Rc G.hT c a v) :
    NR G.hT (compEnvC scope cl C env) (x::frn) (some a::fr.map fun i=>(ρ[i]?).join) L m fx' c:=by
  intro i av e;cases i with
  | zero =>
    simp only [List.getElem?_cons_zero,Option.some.injEq] at e;subst e;exact ⟨x,v,rfl,ra,.blk (lookup_relabel_local hx) hC hn hm⟩
  | succ i =>
    rw [List.getElem?_cons_succ,List.getElem?_map] at e;obtain ⟨j,hj,e2⟩:=Option.map_eq_some_iff.mp e;have hv:vars[j]? = frn[i]?:=by
      have z:=congrArg (·[i]?) hf.names;simp only [List.getElem?_map,hj,Option.map_some] at z;cases hfr:frn[i]? with
      | none=>rw [hfr] at z;cases z
      | some y=>rw [hfr] at z;exact Option.some.inj z
    have e3:ρ[j]? = some (some av):=by
      cases q:ρ[j]? with
      | none=>rw [q] at e2;cases e2
      | some o=>rw [q] at e2;exact congrArg some e2
    obtain ⟨y,u,h1,h2,h3⟩:=n j av e3;rw [hv] at h1;have hy:=List.mem_of_getElem? h1;obtain ⟨k1,k2,k3⟩:=hf.kind y hy;refine ⟨y,u,by rw [List.getElem?_cons_succ];exact h1,h2,?_⟩;cases h3 with
    | loc b _ _=>rw [k2] at b;cases b
    | blk b _ _ _=>rw [k2] at b;cases b
    | cel b d f g w=>exact .cel (UF hk k1 k2) (.inl rfl) (k3.trans f) (hsub _ g) w
inductive CInv (G:Gl) (h₀:Heap) (L:Addr) (m:Str→Option Value) (fx:Led) (c₀:Cs) (s:Shared) (S:Nat→Led→Cs→Prop) (item:DK) (fr:Lo) (tt:TT) (te:TE) (K:List AV→Sto→Prop) (C D:Addr) (N:Nat) (n:Nat):Shared→Prop
  | mk (i:Nat) (σ:Sto) (c:Cs) (il:Led) (h':Heap) (tk:Nat) (acc:List AV) (ys:List Value) (dn:Nat) (oC:Obj) (mC:Str→Option Value):Rep G.hT h₀ L h' m σ c (il++((C,oC)::(D,listOf ys.toArray dn)::fx))→NsObj oC mC→c₀.le c→S i il c→B1 (Rc G.hT c) acc ys→acc.length+n≤N→G2 item fr tt te n i σ acc K→CInv G h₀ L m fx c₀ s S item fr tt te K C D N n {s with heap:=h',toks:=tk}
theorem Rep.upd {hT h₀:Heap}{L:Addr}{h h':Heap}{m:Str→Option Value}{σ:Sto}{c:Cs}{pre post:Led}{C:Addr}{o o':Obj}(r:Rep hT h₀ L h m σ c (pre++(C,o)::post))(hs:∀ b,b≠C→h'.get? b=h.get? b)(e:h'.get? C=some o'):Rep hT h₀ L h' m σ c (pre++(C,o')::post):=
  have r':Rep hT h₀ L h' m σ c ((C,o')::(pre++post)):=Rep.il (il:=[(C,o)]) (il':=[(C,o')]) (r.perm List.perm_middle) (fun b o hb e=>(hs b (ne1 hb)).trans e) (fun p hp=>by rw [List.mem_singleton.mp hp];exact e) rfl
  r'.perm List.perm_middle.symm
theorem Rep.upd2 {hT h₀:Heap}{L:Addr}{h h':Heap}{m:Str→Option Value}{σ:Sto}{c:Cs}{pre post:Led}{p:Addr×Obj}{C:Addr}{o o':Obj}(r:Rep hT h₀ L h m σ c (pre++p::(C,o)::post))(hs:∀ b,b≠C→h'.get? b=h.get? b)(e:h'.get? C=some o'):Rep hT h₀ L h' m σ c (pre++p::(C,o')::post):=by
  have:=Rep.upd (pre:=pre++[p]) (by rw [List.append_assoc];exact r) hs e;rw [List.append_assoc] at this;exact this
set_option tactic.hygienic true in
theorem Zw {elt iter:Expr}{x:Str}{px:Pos}{ifs:List Expr}{scope:Scope}{pos:Pos}{cl:List (Str×Addr)}{frn:List Str}{fr:List Nat}{tt:TT}{te:TE}(he:BJ env)(htt:∀ C,FF G lv (compEnvC scope cl C env) (x::frn) ifs tt)(hte:∀ C,Au G lv (compEnvC scope cl C env) (x::frn) elt te)(hf:IA env scope cl vars frn fr)
    (hkind:scope.kind=.function)
    (hnames:∀ y∈scope.names,y.2=.local→scope.names.lookup y.1=some .local)(hx:scope.names.lookup x=some .local)
    {A:Around}{h₀:Heap}{L:Addr}{m:Str→Option Value}{fx:Led}{ρ:Lo}{σ:Sto}{c:Cs}{s:Shared}{K:List AV→Sto→Prop}{use:Option (Value→Sem Unit)}{Qc E:Value→Shared→Prop}(P:Pl G lv env vars A h₀ L m fx ρ σ c s)
    (k:∀ acc σ' c' h' tk C oC mC D ys dn,K acc σ'→Rep G.hT h₀ L h' m σ' c' ((C,oC)::(D,listOf ys.toArray dn)::fx)→NsObj oC mC→c.le c'→B1 (Rc G.hT c') acc ys→compPost (model G.prog G.w) A E use Qc (.ref D) C (.ok .next) {s with heap:=h',toks:=tk})
    {item:DK}{σ₁:Sto}{I:Addr}{S:Nat→Led→Cs→Prop}{il:Led}{h₂:Heap}{tk₁:Nat}{c₁:Cs}{C D:Addr}{oC:Obj}{mC:Str→Option Value}{N:Nat}(hI:T9 G (fun _=>True) I S item)(hS:S 0 il c₁)(l₁:c.le c₁)
    (R₄:Rep G.hT h₀ L h₂ m σ₁ c₁ (il++((C,oC)::(D,listOf ([]:List Value).toArray 0)::fx))) (nC:NsObj oC mC) (hN:N≤sizeLine) (q₁:G2 item (fr.map fun i=>(ρ[i]?).join) tt te N 0 σ₁ [] K) :
    codeAny (model G.prog G.w) A (.compLoop (.ListComp elt [⟨.Name x px,iter,ifs,0⟩] scope pos) 0 (.ref I) (.ref D) (compEnvC scope cl C env)) (compPost (model G.prog G.w) A E use Qc (.ref D) C) {s with heap:=h₂,toks:=tk₁}:=by
  refine codeAny_compLoop_tests (CInv G h₀ L m fx c₁ s S item (fr.map fun i=>(ρ[i]?).join) tt te K C D N) ?_ N ⟨0,σ₁,c₁,il,h₂,tk₁,[],[],0,oC,_,R₄,nC,.refl _,hS,.nil,by simp,q₁⟩;rintro n _ (⟨i,σ,c,il,h',tk,acc,ys,dn,oC,mC,R,nO,l,hS,ha,hlen,q⟩);have Pi:Pv G lv A h₀ L m (il++((C,oC)::(D,listOf ys.toArray dn)::fx)) σ c {s with heap:=h',toks:=tk}:=⟨P.cx,R⟩
  match e:item i σ with
  | none=>exact (A3I q e).elim
  | some none =>
    refine hI.done Pi hS e _ _ fun h₃ tk₃ r₃=>?_;exact k _ _ _ h₃ tk₃ C oC mC D ys dn (A6d q e) r₃ nO (l₁.trans l) ha
  | some (some a) =>
    obtain (⟨n,rfl,qi⟩):=A3H q e;refine wpAny_mono (XM (Q:=?Q1) (hI.next Pi hS e (.Name x px) trivial ?Q1 _ ?h1) (by intro _;rfl)) ?h2 fun _ _ x=>x
    case h2 =>
      intro r s₁ hr;obtain ⟨v,rfl,hr⟩:=hr;exact hr
    case h1 =>
      intro v il₃ h₃ tk₃ c₃ r₃ l₃ hS₃ rv;have gC:=(r₃.nwf (p:=(C,oC)) mA).1;refine wpAny_assign_Name (wpAny_storeName_local (lookup_relabel_local hx) (LCg.NsObj.ns nO gC) (fun h₄ hn₄ hs₄=>?_) (by simp [compEnvC,relabel,hkind]));replace hs₄:Heap.SameBut C h₃ h₄:=hs₄;obtain ⟨oC',eC',nC'⟩:=LCg.ns_obj hn₄;have r₄:=r₃.upd hs₄.2 eC';have hle:c.le c₃:=l₃;have nr₄:NR G.hT (compEnvC scope cl C env) (x::frn) (some a::fr.map fun i=>(ρ[i]?).join) L m (il₃ ++ ((C,oC')::(D,listOf ys.toArray dn)::fx)) c₃:=
        A3J (A:=A) (h₀:=h₀) (mc:=fun y=>if y=x then some v else mC y) he.kind hf hx (P.nr.mono (l₁.trans (l.trans l₃))) (fun p hp=>by simp [hp]) (by simp) nC' (by simp) rv
      have P₄:Pl G lv (compEnvC scope cl C env) (x::frn) A h₀ L m (il₃ ++ ((C,oC')::(D,listOf ys.toArray dn)::fx)) (some a::fr.map fun i=>(ρ[i]?).join) σ c₃ {s with heap:=h₄,toks:=tk₃ + 1}:=⟨P.cx,r₄,nr₄⟩
      refine htt C A h₀ L m _ _ σ c₃ _ _ _ _ P₄ qi fun b σ₅ vb h₅ tk₅ c₅ q₅ r₅ l₅ x₅=>?_;obtain rfl:vb=b:=x₅;cases vb with
      | false =>
        simp only [Bool.false_eq_true,if_false];exact ⟨n,Nat.lt_succ_self _,i+1,σ₅,c₅,il₃,h₅,tk₅,acc,ys,dn,oC',_,r₅,nC',l.trans (l₃.trans l₅),hI.mono l₅ hS₃,ha.mono (Rc.mono (l₃.trans l₅)),by omega,q₅⟩
      | true =>
        simp only [if_true];refine hte C A h₀ L m _ _ σ₅ c₅ _ _ _ _ (P₄.next r₅ l₅) q₅ fun y σ₆ vy h₆ tk₆ c₆ q₆ r₆ l₆ x₆=>?_;have gD:=(r₆.nwf (p:=(D,listOf ys.toArray dn)) (List.mem_append_right _ (.tail _ (.head _)))).1;refine append_at (s:={s with heap:=h₆,toks:=tk₆}) gD (fun h₇ hs₇ hD₇=>?_) (by rw [List.size_toArray,← ha.length];omega);have e7:ys.toArray.push vy=(ys++[vy]).toArray:=by simp
        rw [e7] at hD₇;have r₇:=r₆.upd2 hs₇.2 hD₇;exact ⟨n,Nat.lt_succ_self _,i+1,σ₆,c₆,il₃,h₇,tk₆,acc++[y],ys++[vy],dn+1,oC',_,r₇,nC',l.trans (l₃.trans (l₅.trans l₆)),hI.mono (l₅.trans l₆) hS₃,
          (ha.mono (Rc.mono (l₃.trans (l₅.trans l₆)))).append (.cons x₆ .nil),by rw [List.length_append,List.length_singleton];omega,q₆⟩
theorem Ss {elt iter:Expr}{x:Str}{px:Pos}{ifs:List Expr}{scope:Scope}{pos:Pos}{cl:List (Str×Addr)}{frn:List Str}{fr:List Nat}{ti:TI}{tt:TT}{te:TE}(he:BJ env)(hi:DO G lv env vars (fun ξ=>True) iter ti)
    (htt:∀ C,FF G lv (compEnvC scope cl C env) (x::frn) ifs tt)(hte:∀ C,Au G lv (compEnvC scope cl C env) (x::frn) elt te)(hf:IA env scope cl vars frn fr)
    (hclos:closureFor scope env=pure cl)(hcell:∀ y∈scope.names,y.2≠.cell)(hkind:scope.kind=.function)
    (hnames:∀ y∈scope.names,y.2=.local→scope.names.lookup y.1=some .local)(hx:scope.names.lookup x=some .local)(hs:∀ x,foldedSetIterable iter env x=pure x) :
    ∀ (A:Around) (h₀:Heap) (L:Addr) (m:Str→Option Value) (fx:Led) (ρ:Lo) (σ:Sto) (c:Cs) (s:Shared) (K:List AV→Sto→Prop) (use:Option (Value→Sem Unit)) (Qc:Value→Shared→Prop) (E:Value→Shared→Prop) (pos':Pos),
      Pl G lv env vars A h₀ L m fx ρ σ c s→(ti ρ σ fun item σ₁=>∃ n,n≤sizeLine∧G2 item (fr.map fun i=>(ρ[i]?).join) tt te n 0 σ₁ [] K) →
      (∀ acc σ' c' h' tk C oC mC D ys dn,K acc σ'→Rep G.hT h₀ L h' m σ' c' ((C,oC)::(D,listOf ys.toArray dn)::fx)→NsObj oC mC→c.le c'→B1 (Rc G.hT c') acc ys→compPost (model G.prog G.w) A E use Qc (.ref D) C (.ok .next) {s with heap:=h',toks:=tk}) →
      wpAny (model G.prog G.w) A (comprehension (.ListComp elt [⟨.Name x px,iter,ifs,0⟩] scope pos) scope env pos' (newList []) false (eval iter env) use) Qc E s:=by
  intro A h₀ L m fx ρ σ c s K use Qc E pos' P q k;refine wpAny_comprehension_free (use:=use) rfl hs hclos hkind hnames (hi A h₀ L m fx ρ σ c s _ _ E P q fun item σ₁ I S il h₁ tk₁ c₁ q₁ r₁ l₁ hI hS=>?_);obtain ⟨N,hN,q₁⟩:=q₁;refine wpAny_newObj_type (wpAny_newFunctionEnv hcell (by intro y hy;simp at hy) (fun h₂ hns₂ hsb₂=>?_) hkind);obtain ⟨oC,eC,nC⟩:=LCg.ns_obj hns₂;have R₃:=Rep.il (il:=[(_,_)]) (il':=[(_,oC)]) ((r₁.addF {cls:=.type "list",data:=.seq ([]:List Value).toArray}).addF {cls:=.type "dict",data:=.dict #[]}) (fun b o hb e=>(hsb₂.2 b (ne1 hb)).trans e) (fun p hp=>by rw [List.mem_singleton.mp hp];exact eC) rfl;have R₄:=R₃.perm (List.perm_append_comm_assoc [(_,oC),(_,_)] il fx);have loop:=Zw (tk₁:=tk₁) he htt hte hf hkind hnames hx P k hI hS l₁ R₄ nC hN q₁ (elt:=elt) (iter:=iter) (px:=px) (pos:=pos);exact codeAny_compStart_list loop (hI.self (fun ξ=>trivial) hS (fun p hp=>(R₄.nw p (by simp [hp])).1) _ _ loop)
theorem A5D {elt iter:Expr}{x:Str}{px:Pos}{ifs:List Expr}{scope:Scope}{pos:Pos}{cl:List (Str×Addr)}{frn:List Str}{fr:List Nat}{ti:TI}{tt:TT}{te:TE}(he:BJ env)(hi:DO G lv env vars (fun ξ=>True) iter ti)
    (htt:∀ C,FF G lv (compEnvC scope cl C env) (x::frn) ifs tt)(hte:∀ C,Au G lv (compEnvC scope cl C env) (x::frn) elt te)(hf:IA env scope cl vars frn fr)
    (hclos:closureFor scope env=pure cl)(hcell:∀ y∈scope.names,y.2≠.cell)(hkind:scope.kind=.function)
    (hnames:∀ y∈scope.names,y.2=.local→scope.names.lookup y.1=some .local)(hx:scope.names.lookup x=some .local)(hs:∀ x,foldedSetIterable iter env x=pure x) :
    Au G lv env vars (.ListComp elt [⟨.Name x px,iter,ifs,0⟩] scope pos) (Eg ti fr tt te):=by
  intro A h₀ L m fx ρ σ c s Q Qc E P q k;rw [eval_ListComp];refine Ss he hi htt hte hf hclos hcell hkind hnames hx hs A h₀ L m fx ρ σ c s _ none Qc E _ P q fun acc σ' c' h' tk C oC mC D ys dn q' r' nO l ha=>?_;have gC:=(r'.nwf (p:=(C,oC)) (.head _)).1;refine ⟨mC,LCg.NsObj.ns nO gC,fun h₄ hs₄=>?_⟩;have r₄:Rep G.hT h₀ L h₄ m σ' c' ((D,listOf ys.toArray dn)::fx):=Rep.gone (il:=[(C,oC)]) r' fun b o hb e=>(hs₄.2 b (ne1 hb)).trans e;exact k _ _ _ h₄ tk _ q' (r₄.own ha) (l.trans ⟨⟨[D],rfl⟩,fun ξ h=>h⟩) ⟨D,by show (c'.ad++[D])[σ'.length]? = _;rw [r'.so.length];simp,rfl⟩
theorem A2i {A:Around}{h₀:Heap}{L C:Addr}{m:Str→Option Value}{cl fx:Led}{ρ:Lo}{c:Cs}{oC:Obj}{mC:Str→Option Value}(n:NR G.hT env vars ρ L m (cl++([(C,oC)]++fx)) c)(nC:NsObj oC mC)(hC:C≠env.locals):NR G.hT env vars ρ L m (cl++fx) c:=by
  intro i av e;obtain ⟨x,v,h1,h2,h3⟩:=n i av e;refine ⟨x,v,h1,h2,?_⟩;cases h3 with
  | loc a b d=>exact .loc a b d
  | blk a b d e =>
    refine .blk a ?_ d e;simp only [List.mem_append,List.mem_singleton,Prod.mk.injEq] at b ⊢;rcases b with b | ⟨b,_⟩ | b
    · exact .inl b
    · exact absurd b.symm hC
    · exact .inr b
  | cel a b d e f =>
    refine .cel a b d ?_ f;simp only [List.mem_append,List.mem_singleton,Prod.mk.injEq] at e ⊢;rcases e with e | ⟨_,e⟩ | e
    · exact .inl e
    · obtain ⟨es,ep,hd,_⟩:=nC
      rw [e,hd] at f;cases f
    · exact .inr e
set_option tactic.hygienic true in
theorem Zi {i:Nat}{y:Str}{py spos:Pos}{elt iter:Expr}{x:Str}{px:Pos}{ifs:List Expr}{scope:Scope}{pos:Pos}{cl:List (Str×Addr)}{frn:List Str}{fr:List Nat}{ti:TI}{tt:TT}{te:TE}(he:BJ env)(hy:vars[i]? = some y)(hnd:vars.Nodup)(hky:env.kindOf y=some .local)(hsw:swapsWith (.ListComp elt [⟨.Name x px,iter,ifs,0⟩] scope pos) (some (.Name y py)) spos.line env=pure true)(hi:DO G lv env vars (fun _=>True) iter ti)
    (htt:∀ C,FF G lv (compEnvC scope cl C env) (x::frn) ifs tt)(hte:∀ C,Au G lv (compEnvC scope cl C env) (x::frn) elt te)(hf:IA env scope cl vars frn fr)
    (hclos:closureFor scope env=pure cl)(hcell:∀ y∈scope.names,y.2≠.cell)(hkind:scope.kind=.function)
    (hnames:∀ y∈scope.names,y.2=.local→scope.names.lookup y.1=some .local)(hx:scope.names.lookup x=some .local)(hs:∀ x,foldedSetIterable iter env x=pure x) :
    Ca G lv env vars (.Assign [.Name y py] (.ListComp elt [⟨.Name x px,iter,ifs,0⟩] scope pos) spos) (BY i (Eg ti fr tt te)):=by
  intro A h₀ L m cl fx ρ σ c s Q Qc E P q k;rw [exec_Assign_Name_used _ _ _ _ hsw];refine wpAny_bind (wpAny_standAt (wpAny_bind ?_));show wpAny _ A (do let _ ← comprehension (.ListComp elt [⟨.Name x px,iter,ifs,0⟩] scope pos) scope env _ (newList []) false (eval iter env) (some (assign (.Name y py) env))) _ _ s;refine wpAny_bind (wpAny_mono (Ss he hi htt hte hf hclos hcell hkind hnames hx hs A h₀ L m _ ρ σ c s _ (some (assign (.Name y py) env)) (fun _ s'=>Qc .next s') E _ P.pl q fun acc σ' c' h' tk C oC mC D ys dn q' r' nO l ha=>?_) (fun _ s' hq=>wpAny_pure (wpAny_pure hq)) fun _ _ e=>e);have rD:Rep G.hT h₀ L h' m σ' c' ((D,listOf ys.toArray dn)::([(C,oC)]++(cl++fx))):=r'.perm (List.Perm.swap _ _ _);have r₂:=rD.own ha;have l₂:c'.le {c' with ad:=c'.ad++[D],ml:=c'.ml++[(D,listOf ys.toArray dn)]}:=⟨⟨[D],rfl⟩,fun _ h=>h⟩
  have P₂:=P.addI (tk:=tk) r₂ (l.trans l₂);have hCL:C≠env.locals:=by rw [P.loc];exact (r'.nwf (p:=(C,oC)) (.head _)).2.1
  have ra:Rc G.hT {c' with ad:=c'.ad++[D],ml:=c'.ml++[(D,listOf ys.toArray dn)]} (.loc σ'.length) (.ref D):=⟨D,by show (c'.ad++[D])[σ'.length]? = _;rw [r'.so.length];simp,rfl⟩
  refine wpAny_assign_Name (KN he hy hnd hky P₂ ra fun m' h₃ tk₃ P₃=>?_);have gC:=(P₃.pl.rep.nwf (p:=(C,oC)) (List.mem_append_right _ (.head _))).1;refine ⟨mC,LCg.NsObj.ns nO gC,fun h₄ hs₄=>?_⟩;have r₄:Rep G.hT h₀ L h₄ m' (σ'++[.list acc]) _ (cl++fx):=Rep.gone (il:=[(C,oC)]) (P₃.pl.rep.perm (List.perm_append_comm_assoc _ _ _)) fun b o hb e=>(hs₄.2 b (ne1 hb)).trans e;exact k _ _ _ _ _ _ h₄ tk₃ _ q' ⟨⟨P.pl.cx,r₄,A2i (A:=A) (h₀:=h₀) P₃.pl.nr nO hCL⟩,P.loc,P.ce⟩ (l.trans l₂) .next
end
theorem Rep.grow {hT h₀:Heap}{L:Addr}{h h':Heap}{m:Str→Option Value}{σ:Sto}{c:Cs}{fx:Led}(r:Rep hT h₀ L h m σ c fx)(hk:∀ b o,h.get? b=some o→h'.get? b=some o):Rep hT h₀ L h' m σ c fx:=
  Rep.gone (il:=[]) r fun b o ξ e=>hk b o e
noncomputable def lenOf (σ:Sto)(a:AV):Option Nat:=o1 (asT a) (fun ds=>some ds.length) (o1 (asS a) (fun x=>some x.length) ((AU σ a).map List.length))
noncomputable def OT:List AV→Option (List Bool)
  | []=>some []
  | .d (.bool b)::r=>(OT r).map (b::·)
  | _=>none
noncomputable def Ga:List AV→Option (List Str)
  | []=>some []
  | .d (.str x)::r=>(Ga r).map (x::·)
  | _=>none
noncomputable abbrev XC:=List AV→Sto→Option (AV×Sto)
noncomputable def cY (y:XC):CS:=fun args σ Q=>∃ r,y args σ = some r∧Q r.1 r.2
noncomputable def BW:XC:=fun args σ=>a1 args fun a=>(lenOf σ a).bind fun n=>if n≤sizeLine then some (.d (.int (n:Int)),σ) else none
noncomputable def yI1 (f:Int→Option D):XC:=fun args σ=>a1 args fun a=>(asI a).bind fun i=>(f i).bind fun d=>some (.d d,σ)
noncomputable def yI2 (f:Int→Int→Int):XC:=fun args σ=>a2 args fun a b=>(asI a).bind fun i=>(asI b).bind fun j=>some (.d (.int (f i j)),σ)
noncomputable def WM:XC:=yI1 fun i=>some (.int (if i < 0 then -i else i))
noncomputable def Yl:XC:=yI2 fun a b=>if b > a then b else a
noncomputable def Ym:XC:=yI2 fun a b=>if b < a then b else a
noncomputable def NZ:XC:=yI1 fun i=>if i.natAbs.log2 < 1920 then some (.str (Str.ofString (toString i))) else none
noncomputable def yInt:XC:=fun args σ=>a1 args fun a=>(asBo a).bind fun b=>some (.d (.int (if b then 1 else 0)),σ)
noncomputable def GA:XC:=fun args σ=>a1 args fun a=>o1 (asT a) (fun ds=>some (.d (.tup ds),σ)) ((AU σ a).bind fun l=>(Ez l).bind fun ds=>if ds.length≤sizeLine then some (.d (.tup ds),σ) else none)
noncomputable def Zc:XC:=fun args σ=>a1 args fun a=>(asT a).bind fun ds=>if ds.length≤sizeLine then some (.loc σ.length,σ ++ [.list (ds.map .d)]) else none
noncomputable def yAll:XC:=fun args σ=>a1 args fun a=>((AU σ a).bind OT).bind fun bs=>some (.d (.bool (bs.all id)),σ)
noncomputable def yAny:XC:=fun args σ=>a1 args fun a=>((AU σ a).bind OT).bind fun bs=>some (.d (.bool (bs.any id)),σ)
noncomputable def yOrd:XC:=fun args σ=>a1 args fun a=>(asS a).bind fun x=>if x.cps.size=1 then some (.d (.int ((x.cps.getD 0 0:Nat):Int)),σ) else none
noncomputable def yChr:XC:=yI1 fun i=>if 0≤i∧i≤1114111 then some (.str ⟨#[i.toNat]⟩) else none
noncomputable def Ea:CS:=cY BW
noncomputable def A3F:CS:=cY WM
noncomputable def cMax:CS:=cY Yl
noncomputable def cMin:CS:=cY Ym
noncomputable def Ru:CS:=cY NZ
noncomputable def cInt:CS:=cY yInt
noncomputable def I0:CS:=cY GA
noncomputable def A1b:CS:=cY Zc
noncomputable def cAll:CS:=cY yAll
noncomputable def cAny:CS:=cY yAny
noncomputable def cOrd:CS:=cY yOrd
noncomputable def cChr:CS:=cY yChr
theorem Yj {f:Int→Option D}{args:List AV}{σ:Sto}{r:AV×Sto}(e:yI1 f args σ = some r):∃ i d,args=[.d (.int i)]∧f i=some d∧r=(.d d,σ):=by
  obtain ⟨a,rfl,e⟩:=JJ e;exact oB e fun i e1 e=>oB e fun d e2 e=>⟨i,d,by rw [Mq e1],e2,(Option.some.inj e).symm⟩
theorem A2U {f:Int→Int→Int}{args:List AV}{σ:Sto}{r:AV×Sto}(e:yI2 f args σ = some r):∃ i j,args=[.d (.int i),.d (.int j)]∧r=(.d (.int (f i j)),σ):=by
  obtain ⟨a,b,rfl,e⟩:=Pe e;exact oB e fun i e1 e=>oB e fun j e2 e=>⟨i,j,by rw [Mq e1,Mq e2],(Option.some.inj e).symm⟩
theorem O9 {hT:Heap}{c:Cs}{l:List AV}{vs:List Value}{bs:List Bool}(k:B1 (Rc hT c) l vs)(e:OT l=some bs):LSm.BoolsAre vs bs:=by
  induction k generalizing bs with
  | nil=>obtain rfl:=Option.some.inj e;exact .nil
  | @cons a _ _ _ h _ ih=>cases a with
    | loc n=>exact Ck e
    | d x=>cases x with
      | bool b=>obtain ⟨bs',e',rfl⟩:=Bx e;obtain rfl:=Ff h;exact .cons b (ih e')
      | _=>exact Ck e
theorem Wx {l:List AV}{xs:List Str}(e:Ga l=some xs):l=xs.map fun x=>.d (.str x):=by
  induction l generalizing xs with
  | nil=>obtain rfl:=Option.some.inj e;rfl
  | cons a r ih=>cases a with
    | loc n=>exact Ck e
    | d x=>cases x with
      | str y=>obtain ⟨l',e',rfl⟩:=Bx e;rw [ih e'];rfl
      | _=>exact Ck e
theorem A4p {hT:Heap}{c:Cs}{xs:List Str}{vs:List Value}(k:B1 (Rc hT c) (xs.map fun x=>.d (.str x)) vs):∃ l:List (Str×Tok),vs=strValues l∧l.map (·.1)=xs:=by
  induction xs generalizing vs with
  | nil=>exact ⟨[],B1.nil_inv k,rfl⟩
  | cons x xs ih =>
    obtain ⟨v,us,rfl,h,t⟩:=B1.cons_inv k;obtain ⟨l,rfl,rfl⟩:=ih t;obtain ⟨u,rfl⟩:=DZ h;exact ⟨(x,u)::l,rfl,rfl⟩
theorem WH {hT:Heap}{c:Cs}:∀ (l:List (Str×Tok)),B1 (Rc hT c) ((l.map (·.1)).map fun x=>.d (.str x)) (strValues l)
  | []=>.nil
  | (x,t)::r=>.cons (.str x t) (WH r)
section
variable {G:Gl}{lv:Nat}
theorem one {hT:Heap}{c:Cs}{a:AV}{vals:List Value}(h:Rl hT c [a] vals):∃ v,vals=[v]∧Rc hT c a v:=by
  obtain ⟨v,us,rfl,h1,t⟩:=B1.cons_inv h;exact ⟨v,by rw [B1.nil_inv t],h1⟩
theorem two {hT:Heap}{c:Cs}{a b:AV}{vals:List Value}(h:Rl hT c [a,b] vals):∃ v u,vals=[v,u]∧Rc hT c a v∧Rc hT c b u:=by
  obtain ⟨v,us,rfl,h1,t⟩:=B1.cons_inv h;obtain ⟨u,rfl,h2⟩:=one t;exact ⟨v,u,rfl,h1,h2⟩
theorem A44 {hT:Heap}{c:Cs}{a b d:AV}{vals:List Value}(h:Rl hT c [a,b,d] vals):∃ v u w,vals=[v,u,w]∧Rc hT c a v∧Rc hT c b u∧Rc hT c d w:=by
  obtain ⟨v,us,rfl,h1,t⟩:=B1.cons_inv h;obtain ⟨u,w,rfl,h2,h3⟩:=two t;exact ⟨v,u,w,rfl,h1,h2,h3⟩
theorem Q5 {n:Nat}(h:n≤sizeLine):(n:Int) < 2 ^ 63:=by rw [sizeLine_eq] at h;omega
theorem Cr:Ao G lv (.builtin "len") Ea:=by
  rintro A h₀ L m fx σ c s args vals Q Qc E P ra ⟨r,e,q⟩ k;obtain ⟨a,rfl,f1⟩:=JJ e;obtain ⟨n,e1,f2⟩:=Az f1;obtain ⟨hz,rfl⟩:=Bq f2;obtain ⟨v,rfl,rv⟩:=one ra;have kk:∀ u tk,Qc (.int (n:Int) u) {s with heap:=s.heap,toks:=tk}:=fun u tk=>k _ _ _ s.heap tk c q P.rep (.refl c) (.int _ _)
  rcases IT e1 with ⟨ds,e2,e3⟩ | e1
  · obtain rfl:=O7 e2
    obtain rfl:=Option.some.inj e3;obtain ⟨x,vs,k',rfl,h1,h2⟩:=Hg rv;have hl':vs.toArray.size=ds.length:=by rw [List.size_toArray,h2.length]
    exact PyProof.Rows.len_tuple (items:=vs.toArray) ⟨_,P.good h1,rfl,_,rfl⟩ (by rw [hl'];exact Q5 hz) (by rw [hl'];exact kk _ _)
  rcases IT e1 with ⟨y,e2,e3⟩ | e1
  · obtain rfl:=Mr e2
    obtain rfl:=Option.some.inj e3;obtain ⟨t,rfl⟩:=DZ rv;exact PyProof.Rows.len_str (by have:=Q5 hz;omega) (kk _ _)
  · obtain ⟨l,e2,hl⟩:=Bx e1
    obtain ⟨x,vs,k',rfl,h1,h2⟩:=Bo P rv e2;have hl':vs.toArray.size=n:=by rw [List.size_toArray,← h2.length,hl]
    exact call_len_list (BV h1) (by rw [hl'];exact Q5 hz) (by rw [hl'];exact kk _ _)
theorem A4E:Ao G lv (.builtin "abs") A3F:=by
  rintro A h₀ L m fx σ c s args vals Q Qc E P ra ⟨r,e,q⟩ k;obtain ⟨i,d,rfl,f,rfl⟩:=Yj e;obtain rfl:=Option.some.inj f;obtain ⟨v,rfl,rv⟩:=one ra;obtain ⟨t,rfl⟩:=DY rv;exact call_abs_int fun u tk=>k _ _ _ s.heap tk c q P.rep (.refl c) (.int _ _)
theorem V_max:Ao G lv (.builtin "max") cMax:=by
  rintro A h₀ L m fx σ c s args vals Q Qc E P ra ⟨r,e,q⟩ k;obtain ⟨i,j,rfl,rfl⟩:=A2U e;obtain ⟨v,u,rfl,rv,ru⟩:=two ra;obtain ⟨t,rfl⟩:=DY rv;obtain ⟨t',rfl⟩:=DY ru;dsimp only at q;refine max_two_ints P.cx.hh fun h' tk hk=>?_;split
  · rw [if_pos ‹_›] at q;exact k _ _ _ h' tk c q (P.rep.grow hk) (.refl c) (.int _ _)
  · rw [if_neg ‹_›] at q;exact k _ _ _ h' tk c q (P.rep.grow hk) (.refl c) (.int _ _)
theorem V_min:Ao G lv (.builtin "min") cMin:=by
  rintro A h₀ L m fx σ c s args vals Q Qc E P ra ⟨r,e,q⟩ k;obtain ⟨i,j,rfl,rfl⟩:=A2U e;obtain ⟨v,u,rfl,rv,ru⟩:=two ra;obtain ⟨t,rfl⟩:=DY rv;obtain ⟨t',rfl⟩:=DY ru;dsimp only at q;refine min_two_ints P.cx.hh fun h' tk hk=>?_;split
  · rw [if_pos ‹_›] at q;exact k _ _ _ h' tk c q (P.rep.grow hk) (.refl c) (.int _ _)
  · rw [if_neg ‹_›] at q;exact k _ _ _ h' tk c q (P.rep.grow hk) (.refl c) (.int _ _)
theorem O5:Ao G lv (.type "str") Ru:=by
  rintro A h₀ L m fx σ c s args vals Q Qc E P ra ⟨r,e,q⟩ k;obtain ⟨i,d,rfl,f,rfl⟩:=Yj e;obtain ⟨h,rfl⟩:=Bq f;obtain ⟨v,rfl,rv⟩:=one ra;obtain ⟨t,rfl⟩:=DY rv;exact PySem.P.str_of_int h (k _ _ _ s.heap _ c q P.rep (.refl c) (.str _ _))
theorem V_int:Ao G lv (.type "int") cInt:=by
  rintro A h₀ L m fx σ c s args vals Q Qc E P ra ⟨r,e,q⟩ k;obtain ⟨a,rfl,f1⟩:=JJ e;obtain ⟨b,e1,f2⟩:=Az f1;obtain rfl:=A5S e1;obtain rfl:=Option.some.inj f2;obtain ⟨v,rfl,rv⟩:=one ra;obtain rfl:=Ff rv;exact call_int_bool (k _ _ _ s.heap _ c q P.rep (.refl c) (.int _ _))
theorem HA:Ao G lv (.type "tuple") I0:=by
  rintro A h₀ L m fx σ c s args vals Q Qc E P ra ⟨r,e,q⟩ k;obtain ⟨a,rfl,f1⟩:=JJ e;obtain ⟨v,rfl,rv⟩:=one ra;rcases IT f1 with ⟨ds,e1,f2⟩ | f2
  · obtain rfl:=O7 e1
    obtain rfl:=Option.some.inj f2;have rv':=rv;obtain ⟨x,vs,k',rfl,h1,h2⟩:=Hg rv;exact call_tuple_same ⟨_,P.good h1,rfl,_,rfl⟩ (k _ _ _ s.heap s.toks c q P.rep (.refl c) rv')
  · obtain ⟨l,e1,f3⟩:=Az f2
    obtain ⟨ds,e2,f4⟩:=Az f3;obtain ⟨hz,rfl⟩:=Bq f4;obtain ⟨x,vs,k',rfl,h1,h2⟩:=Bo P rv e1;rw [IM e2] at h2;refine call_tuple_list (BV h1) (fun h' hk=>?_) (by rw [List.size_toArray,← h2.length,List.length_map];exact hz);have r':=P.rep.grow hk;obtain ⟨r₂,x₂⟩:=newT (n:=0) ⟨P.cx,P.rep⟩ (r'.fr.push _) (IC h2) (News.push r'.fr r'.nw _) r'.lt;exact k _ _ _ _ s.toks _ q r₂ HB x₂
theorem A5L:Ao G lv (.type "list") A1b:=by
  rintro A h₀ L m fx σ c s args vals Q Qc E P ra ⟨r,e,q⟩ k;obtain ⟨a,rfl,f1⟩:=JJ e;obtain ⟨ds,e1,f2⟩:=Az f1;obtain rfl:=O7 e1;obtain ⟨hz,rfl⟩:=Bq f2;obtain ⟨v,rfl,rv⟩:=one ra;obtain ⟨x,vs,k',rfl,h1,h2⟩:=Hg rv;refine list_copyKT (items:=vs.toArray) P.F P.N ⟨_,P.good h1,rfl,_,rfl⟩ (fun D n h' F' N' hl=>?_) (by rw [List.size_toArray,h2.length];exact hz);exact k _ _ _ h' s.toks _ q (A2g P (KR h2) F' N' hl) GK (HK P.rep.so.length)
theorem V_all:Ao G lv (.builtin "all") cAll:=by
  rintro A h₀ L m fx σ c s args vals Q Qc E P ra ⟨r,e,q⟩ k;obtain ⟨a,rfl,f1⟩:=JJ e;obtain ⟨bs,e1,f2⟩:=Az f1;obtain rfl:=Option.some.inj f2;obtain ⟨l,e3,e2⟩:=Az e1;obtain ⟨v,rfl,rv⟩:=one ra;obtain ⟨x,vs,k',rfl,h1,h2⟩:=Bo P rv e3;exact LSm.all_bools P.F P.N P.cx.hh (BV h1) (O9 h2 e2) fun h' tk F' N'=>k _ _ _ h' tk c q (P.rep.setM F' N') (.refl c) (.bool _)
theorem V_any:Ao G lv (.builtin "any") cAny:=by
  rintro A h₀ L m fx σ c s args vals Q Qc E P ra ⟨r,e,q⟩ k;obtain ⟨a,rfl,f1⟩:=JJ e;obtain ⟨bs,e1,f2⟩:=Az f1;obtain rfl:=Option.some.inj f2;obtain ⟨l,e3,e2⟩:=Az e1;obtain ⟨v,rfl,rv⟩:=one ra;obtain ⟨x,vs,k',rfl,h1,h2⟩:=Bo P rv e3;exact LSm.any_bools P.F P.N P.cx.hh (BV h1) (O9 h2 e2) fun h' tk F' N'=>k _ _ _ h' tk c q (P.rep.setM F' N') (.refl c) (.bool _)
theorem A2m {x:Str}(hz:x.cps.size=1):x=⟨#[x.cps.getD 0 0]⟩:=by
  obtain (⟨cps⟩):=x;have e:cps = #[cps.getD 0 0]:=by
    apply Array.ext
    · simpa using hz
    · intro i h1 h2
      have:i=0:=by simp at h2;exact h2
      subst this;simp [Array.getD,h1]
  exact congrArg Str.mk e
theorem V_ord:Ao G lv (.builtin "ord") cOrd:=by
  rintro A h₀ L m fx σ c s args vals Q Qc E P ra ⟨r,e,q⟩ k;obtain ⟨a,rfl,f1⟩:=JJ e;obtain ⟨x,e1,f2⟩:=Az f1;obtain rfl:=Mr e1;obtain ⟨hz,rfl⟩:=Bq f2;obtain ⟨v,rfl,rv⟩:=one ra;obtain ⟨t,rfl⟩:=DZ rv;rw [A2m hz];exact PySem.P.ord_of_char (k _ _ _ s.heap _ c q P.rep (.refl c) (.int _ _))
theorem V_chr:Ao G lv (.builtin "chr") cChr:=by
  rintro A h₀ L m fx σ c s args vals Q Qc E P ra ⟨r,e,q⟩ k;obtain ⟨i,d,rfl,f,rfl⟩:=Yj e;obtain ⟨h,rfl⟩:=Bq f;obtain ⟨v,rfl,rv⟩:=one ra;obtain ⟨t,rfl⟩:=DY rv;exact PySem.P.chr_of_int (by obtain ⟨h1,h2⟩:=h;simp;omega) (k _ _ _ s.heap _ c q P.rep (.refl c) (.str _ _))
end
open Builtin Builtin.Str
noncomputable def mtL (t:CS):MT:=fun a σ=>(AU σ a).map fun ξ=>t
noncomputable def mtS (t:CS):MT:=fun a ξ=>match a with
  | .d (.str _)=>some t
  | _=>none
noncomputable def mtD (t:CS):MT:=fun a ξ=>match a with
  | .d (.dict _)=>some t
  | _=>none
section
variable {G:Gl}{lv:Nat}
theorem Bs {name:Str}{id:String}{t:CS}(slot:Slot "list" name id)(hty:typeOf (.builtin id)=pure (.type "method_descriptor"))(hv:Ao G lv (.builtin id) t):Ng G lv name (mtL t):=by
  intro A h₀ L m fx σ c s a va t' P ra e;obtain ⟨l,e1,rfl⟩:=Option.map_eq_some_iff.mp e;obtain ⟨x,vs,k,rfl,h1,h2⟩:=Bo P ra e1;exact ⟨.builtin id,rfl,hv,fun pl Q E q=>getMethod_builtin ⟨_,h1,rfl⟩ PySem.F.plainAttrs_list slot hty (fun b e=>by cases e;exact ⟨_,h1,rfl⟩) q⟩
theorem EB {name:Str}{id:String}{t:CS}(slot:Slot "str" name id)(hty:typeOf (.builtin id)=pure (.type "method_descriptor"))(hv:Ao G lv (.builtin id) t):Ng G lv name (mtS t):=by
  intro A h₀ L m fx σ c s a va t' P ra e;unfold mtS at e;split at e
  · cases e
    obtain ⟨u,rfl⟩:=DZ ra;exact ⟨.builtin id,rfl,hv,fun pl Q E q=>getMethod_builtin (typeIs_str _ _ _) PySem.F.plainAttrs_str slot hty (fun b e=>by cases e) q⟩
  · cases e
theorem SV {name:Str}{id:String}{t:CS}(slot:Slot "dict" name id)(hty:typeOf (.builtin id)=pure (.type "method_descriptor"))(hv:Ao G lv (.builtin id) t):Ng G lv name (mtD t):=by
  intro A h₀ L m fx σ c s a va t' P ra e;unfold mtD at e;split at e
  · cases e
    obtain ⟨x,es,n,rfl,h0,h1,h2⟩:=P7 ra;have g:=P.good h1;exact ⟨.builtin id,rfl,hv,fun pl Q E q=>getMethod_builtin ⟨_,g,rfl⟩ PySem.F.plainAttrs_dict slot hty (fun b e=>by cases e;exact ⟨_,g,rfl⟩) q⟩
  · cases e
noncomputable def Hx:XC:=fun args σ=>a2 args fun a x=>(A0Z σ a).bind fun p=>if p.2.length≤sizeLine then some (.d .none,σ.set p.1 (.list (p.2++[x]))) else none
noncomputable def Hq:XC:=fun args σ=>a2 args fun a b=>(A0Z σ a).bind fun p=>(AU σ b).bind fun l2=>if p.2.length+l2.length≤sizeLine then some (.d .none,σ.set p.1 (.list (p.2++l2))) else none
noncomputable def Yn:XC:=fun args σ=>a1 args fun a=>(A0Z σ a).bind fun p=>if p.2.length≤sizeLine then p.2.getLast?.bind fun y=>some (y,σ.set p.1 (.list p.2.dropLast)) else none
noncomputable def Nm:CS:=cY Hx
noncomputable def Rt:CS:=cY Hq
noncomputable def cPop:CS:=cY Yn
theorem M7 {A:Around}{h₀:Heap}{L:Addr}{m:Str→Option Value}{fx:Led}{σ:Sto}{c:Cs}{s:Shared}(P:Pv G lv A h₀ L m fx σ c s){n:Nat}{l:List AV}(e:σ[n]? = some (.list l)) :
    ∃ a vs k pre post,c.ad[n]? = some a∧c.ml++(c.pl++fx)=pre++(a,listOf vs.toArray k)::post∧(∀ p∈pre,p.1≠a)∧(∀ p∈post,p.1≠a)∧B1 (Rc G.hT c) l vs ∧
      ∀ h' l' vs' k',Fr h₀ L h' m→News h₀ L h' (pre++(a,listOf vs'.toArray k')::post)→B1 (Rc G.hT c) l' vs'→∃ c',Rep G.hT h₀ L h' m (σ.set n (.list l')) c' fx∧c.le c':=by
  obtain ⟨a,vs,k,pre,post,h1,h2,h3,h4,h5⟩:=YS P e;have nd:=P.rep.nd;have e1:c.ml++(c.pl++fx)=pre++(a,listOf vs.toArray k)::(post++(c.pl++fx)):=by rw [h2];simp
  rw [e1] at nd;have z:=NJ (pre:=pre) (mid:=[(a,listOf vs.toArray k)]) (post:=post++(c.pl++fx)) (fx:=[]) (by simpa using nd);refine ⟨a,vs,k,pre,post++(c.pl++fx),h1,e1,fun p hp=>z.1 _ (.head _) p hp,fun p hp=>z.2 _ (.head _) p (by simpa using hp),h3,fun h' l' vs' k' F' N' x=>?_⟩;refine ⟨{c with ml:=pre++(a,listOf vs'.toArray k')::post},⟨F',?_,?_,h5 l' vs' k' x⟩,⟨⟨[],by simp⟩,fun p hp=>hp⟩⟩
  · refine Cn N' fun p hp=>?_
    simpa using hp
  · simpa using nd
theorem JH:Ao G lv (.builtin "list.append") Nm:=by
  rintro A h₀ L m fx σ c s args vals Q Qc E P ra ⟨r,e,q⟩ k;obtain ⟨a,x,rfl,f1⟩:=Pe e;obtain ⟨p,e1,f2⟩:=Az f1;obtain ⟨rfl,e2⟩:=Tj e1;obtain ⟨hz,rfl⟩:=Bq f2;obtain ⟨v,u,rfl,rv,ru⟩:=two ra;obtain ⟨a,vs,kk,pre,post,h1,h2,n1,n2,h3,h4⟩:=M7 P e2;obtain ⟨b,hb,rfl⟩:=rv;obtain rfl:a=b:=by rw [h1] at hb;exact Option.some.inj hb
  have N:=P.N;rw [h2] at N;refine append_K (hsz:=by rw [List.size_toArray,← h3.length];exact hz) P.F N (UO n1 n2) fun h' F' N'=>?_;rw [List.push_toArray] at N';obtain ⟨c',r',l'⟩:=h4 h' (p.2++[_]) (vs++[u]) _ F' N' (h3.append (.cons ru .nil));exact k _ _ _ h' s.toks c' q r' l' .none
theorem O4:Ao G lv (.builtin "list.extend") Rt:=by
  rintro A h₀ L m fx σ c s args vals Q Qc E P ra ⟨r,e,q⟩ k;obtain ⟨a,x,rfl,f1⟩:=Pe e;obtain ⟨p,e1,f2⟩:=Az f1;obtain ⟨l2,e3,f3⟩:=Az f2;obtain ⟨rfl,e2⟩:=Tj e1;obtain ⟨hz,rfl⟩:=Bq f3;obtain ⟨v,u,rfl,rv,ru⟩:=two ra;obtain ⟨a,vs,kk,pre,post,h1,h2,n1,n2,h3,h4⟩:=M7 P e2;obtain ⟨x,vs2,k2,rfl,g1,g2⟩:=Bo P ru e3;obtain ⟨b,hb,rfl⟩:=rv;obtain rfl:a=b:=by rw [h1] at hb;exact Option.some.inj hb
  have N:=P.N;rw [h2] at N;refine extend_in (n:=kk) (n2:=k2) (its2:=vs2.toArray) P.F N n1 n2 g1 (fun h' n' F' N'=>?_) (by rw [List.size_toArray,← h3.length,← g2.length];exact hz);obtain ⟨c',r',l'⟩:=h4 h' (p.2++l2) (vs++vs2) n' F' (by simpa using N') (h3.append g2);exact k _ _ _ h' s.toks c' q r' l' .none
theorem ML:∀ (p:List Value)(y:Value),kl_last (p++[y])=some (p,y)
  | [],y=>rfl
  | x::p,y=>by
    show (match kl_last (p++[y]) with | some (p,y)=>some (x::p,y) | none=>some ([],x))=_;rw [ML p y]
theorem B1.last {α β:Type}{R:α→β→Prop}{l:List α}{vs:List β}{y:α}(k:B1 R l vs)(e:l.getLast? = some y):∃ p v,vs=p++[v]∧R y v∧B1 R l.dropLast p:=by
  induction k with
  | nil=>cases e
  | @cons a b as bs x t ih=>cases as with
    | nil=>obtain rfl:=B1.nil_inv t;obtain rfl:=Option.some.inj e;exact ⟨[],b,rfl,x,.nil⟩
    | cons a' r =>
      rw [List.getLast?_cons_cons] at e;obtain ⟨p,u,rfl,h1,h2⟩:=ih e;exact ⟨b::p,u,rfl,h1,.cons x h2⟩
theorem V_pop:Ao G lv (.builtin "list.pop") cPop:=by
  rintro A h₀ L m fx σ c s args vals Q Qc E P ra ⟨r,e,q⟩ k;obtain ⟨a,rfl,f1⟩:=JJ e;obtain ⟨p,e1,f2⟩:=Az f1;obtain ⟨rfl,e2⟩:=Tj e1;refine oI f2 fun hz f3=>?_;obtain ⟨y,e3,f4⟩:=Az f3;obtain rfl:=Option.some.inj f4;obtain ⟨v,rfl,rv⟩:=one ra;obtain ⟨a,vs,kk,pre,post,h1,h2,n1,n2,h3,h4⟩:=M7 P e2;obtain ⟨b,hb,rfl⟩:=rv;obtain rfl:a=b:=by rw [h1] at hb;exact Option.some.inj hb
  have hlen:=h3.length;obtain ⟨pp,u,rfl,ru,hp⟩:=h3.last e3;have N:=P.N;rw [h2] at N;refine kl_pop (its:=(pp++[u]).toArray) P.F N (by rw [List.toList_toArray];exact ML pp u) (UO n1 n2) (by rw [List.toList_toArray,← hlen];exact hz) fun h' F' N'=>?_;obtain ⟨c',r',l'⟩:=h4 h' p.2.dropLast pp _ F' N' hp;exact k _ _ _ h' s.toks c' q r' l' (Rc.mono l' _ _ ru)
noncomputable def Di:XC:=fun args σ=>a2 args fun s a=>(asS s).bind fun x=>((AU σ a).bind Ga).bind fun xs=>if JoinOk x xs=true then some (.d (.str (Txt.join x xs)),σ) else none
noncomputable def A4x (x:Str)(σ:Sto):Option (AV×Sto):=if x.length≤sizeLine∧(spaceWords x (x.length+1)).length≤sizeLine then some (.loc σ.length,σ ++ [.list ((Txt.words x).map fun y=>.d (.str y))]) else none
noncomputable def A4y (x y:Str)(σ:Sto):Option (AV×Sto):=if (y.length == 0)=false∧x.length≤sizeLine∧(partsBetween x (occurrences x y 0 x.length (x.length+1)) y.length).length≤sizeLine then some (.loc σ.length,σ ++ [.list ((Txt.split x y).map fun y=>.d (.str y))]) else none
noncomputable def KE:XC:=fun args σ=>o1 (a1 args asS) (fun x=>A4x x σ) (a2 args fun a b=>(asS a).bind fun x=>(asS b).bind fun y=>A4y x y σ)
noncomputable def A4w:XC:=fun args σ=>a3 args fun d k a=>(asM d).bind fun tb=>(asI k).bind fun k=>some (match tb.lookup k with
    | some x=>.d x
    | none=>a,σ)
noncomputable def LC:CS:=cY Di
noncomputable def TF:CS:=cY KE
noncomputable def A3G:CS:=cY A4w
theorem JI:Ao G lv (.builtin "str.join") LC:=by
  rintro A h₀ L m fx σ c s args vals Q Qc E P ra ⟨r,e,q⟩ k;obtain ⟨a,b,rfl,f1⟩:=Pe e;obtain ⟨x,e1,f2⟩:=Az f1;obtain ⟨xs,e2,f3⟩:=Az f2;obtain rfl:=Mr e1;obtain ⟨hj,rfl⟩:=Bq f3;obtain ⟨l,e3,e4⟩:=Az e2;obtain ⟨v,u,rfl,rv,ru⟩:=two ra;obtain ⟨t,rfl⟩:=DZ rv;obtain ⟨x,vs,k2,rfl,g1,g2⟩:=Bo P ru e3;rw [Wx e4] at g2;obtain ⟨ls,rfl,hl⟩:=A4p g2;exact SC.join (BV g1) hl hj fun t' kk=>k _ _ _ s.heap kk c q P.rep (.refl c) (.str _ _)
theorem Kg {A:Around}{h₀:Heap}{L:Addr}{m:Str→Option Value}{fx:Led}{σ:Sto}{c:Cs}{s:Shared}{Q:AV→Sto→Prop}{Qc:Value→Shared→Prop}{l:List (Str×Tok)}{tk:Nat}(P:Pv G lv A h₀ L m fx σ c s)
    (q:Q (.loc σ.length) (σ ++ [.list ((l.map (·.1)).map fun y=>.d (.str y))]))(k:Kn G h₀ L m fx c s Rc Q Qc):Qc (.ref s.heap.objs.size) {s with heap:=s.heap.push {cls:=.type "list",data:=.seq (strValues l).toArray},toks:=tk}:=by
  exact k _ _ _ _ tk _ q ((P.rep.addF (listOf (strValues l).toArray 0)).own (WH l)) GK (HK P.rep.so.length)
theorem Yw:Ao G lv (.builtin "str.split") TF:=by
  rintro A h₀ L m fx σ c s args vals Q Qc E P ra ⟨r,e,q⟩ k;rcases IT e with ⟨x,e1,f1⟩ | f1
  · obtain ⟨a,rfl,e2⟩:=JJ e1
    obtain rfl:=Mr e2;obtain ⟨⟨z1,z2⟩,rfl⟩:=Bq f1;obtain ⟨v,rfl,rv⟩:=one ra;obtain ⟨t,rfl⟩:=DZ rv;dsimp only at q;refine call_meets PySem.F.slot_str_split (typeIs_str _ _ _) PySem.F.entry_str_split (PySem.F.args_str_split_1 _) (meets_str_split_space x t z1 z2) ?_
    by_cases hw:(spaceWords x (x.length+1) == [(0,x.length)])=true
    · rw [if_pos hw]
      unfold Txt.words at q;rw [if_pos hw] at q;exact Kg (l:=[(x,t)]) (tk:=s.toks) P q k
    · rw [if_neg hw]
      unfold Txt.words at q;rw [if_neg hw] at q;rw [strsFrom_eq];exact Kg (l:=numbered s.toks (PySem.wordsOf x)) P (by rw [numbered_texts];exact q) k
  · obtain ⟨a,b,rfl,f2⟩:=Pe f1
    obtain ⟨x,e1,f3⟩:=Az f2;obtain ⟨y,e2,f4⟩:=Az f3;obtain rfl:=Mr e1;obtain rfl:=Mr e2;obtain ⟨⟨z0,z1,z2⟩,rfl⟩:=Bq f4;obtain ⟨v,u,rfl,rv,ru⟩:=two ra;obtain ⟨t,rfl⟩:=DZ rv;obtain ⟨t',rfl⟩:=DZ ru;dsimp only at q;unfold Txt.split at q
    by_cases h1:(decide (x.length < y.length) || decide (strKind x < strKind y))=true
    · rw [if_pos h1] at q
      exact call_meets PySem.F.slot_str_split (typeIs_str _ _ _) PySem.F.entry_str_split (PySem.F.args_str_split_2 _ _) (meets_str_split_cannot_occur x y t t' h1) (Kg (l:=[(x,t)]) (tk:=s.toks) P q k)
    · rw [if_neg h1] at q
      have h1':=Bool.eq_false_iff.mpr h1
      by_cases hf:(occurrences x y 0 x.length (x.length+1)).isEmpty=true
      · rw [if_pos hf] at q
        exact call_meets PySem.F.slot_str_split (typeIs_str _ _ _) PySem.F.entry_str_split (PySem.F.args_str_split_2 _ _) (meets_str_split_not_found x y t t' h1' z0 hf) (Kg (l:=[(x,t)]) (tk:=s.toks) P q k)
      · rw [if_neg hf] at q
        refine call_meets PySem.F.slot_str_split (typeIs_str _ _ _) PySem.F.entry_str_split (PySem.F.args_str_split_2 _ _) (meets_str_split_sep x y t t' h1' z0 (Bool.eq_false_iff.mpr hf) z1 z2) ?_;show Qc _ {s with toks:=_,heap:=s.heap.push {cls:=.type "list",data:=.seq (strsFrom s.toks (partsBetween x (occurrences x y 0 x.length (x.length+1)) y.length)).toArray}}
        rw [strsFrom_eq];exact Kg (l:=numbered s.toks _) P (by rw [numbered_texts];exact q) k
theorem A4F:Ao G lv (.builtin "dict.get") A3G:=by
  rintro A h₀ L m fx σ c s args vals Q Qc E P ra ⟨r,e,q⟩ k;obtain ⟨d,k',a,rfl,f1⟩:=A4H e;obtain ⟨tb,e1,f2⟩:=Az f1;obtain ⟨i,e2,f3⟩:=Az f2;obtain rfl:=A00 e1;obtain rfl:=Mq e2;obtain rfl:=Option.some.inj f3;obtain ⟨v,u,y,rfl,rv,ru,ry⟩:=A44 ra;obtain ⟨x,es,n,rfl,h0,h1,h2⟩:=P7 rv;obtain ⟨t,rfl⟩:=DY ru;have hm:=PV (prog:=G.prog) (w:=G.w) (P.good h1) h2;refine call_meetsIn PySem.F.slot_dict_get hm.typeIs PySem.F.entry_dict_get (PySem.F.args_dict_get_3 _ _ _) (meets_dict_get_default (intKind G.prog G.w) x (intKind_is G.prog G.w i t) h0 y) ⟨_,hm,?_⟩;obtain ⟨r,er,hr⟩:=ME i h2;rw [er];dsimp only at q;generalize tb.lookup i=o at hr q;cases o with
  | none=>cases r with
    | none=>exact k _ _ _ s.heap _ c q P.rep (.refl c) ry
    | some _=>exact hr.elim
  | some d=>cases r with
    | none=>exact hr.elim
    | some w=>exact k _ _ _ s.heap _ c q P.rep (.refl c) hr
end
theorem Ao.up {G:Gl}{lv lv':Nat}{f:Value}{t:CS}(h:Ao G lv f t)(hl:lv≤lv'):Ao G lv' f t:=
  fun A h₀ L m fx σ c s args vals Q Qc E P ra q k=>h A h₀ L m fx σ c s args vals Q Qc E ⟨P.cx.le hl,P.rep⟩ ra q k
theorem RV.up {G:Gl}{lv lv':Nat}{f:Value}{t:CS}(h:RV G lv f t)(hl:lv≤lv'):RV G lv' f t:=
  fun A h₀ L m fx σ c s args vals Q Qc P ra q k=>h A h₀ L m fx σ c s args vals Q Qc ⟨P.cx.le hl,P.rep⟩ ra q k
noncomputable def Bt (t:CS):CS:=fun args σ Q=>∃ ds:List D,args=ds.map .d∧t args [] fun a ξ=>∃ d,a=.d d∧Q (.d d) σ
theorem We {hT h₀:Heap}{L:Addr}{h:Heap}{m:Str→Option Value}{σ:Sto}{c:Cs}{fx:Led}(r:Rep hT h₀ L h m σ c fx):Rep hT h₀ L h m [] {ad:=[],ml:=[],pl:=c.pl} (c.ml++fx):=by
  have p:(c.ml++(c.pl++fx)).Perm ([]++(c.pl++(c.ml++fx))):=List.perm_append_comm_assoc _ _ _;exact ⟨r.fr,Cn r.nw fun q hq=>p.mem_iff.mpr hq,(List.Perm.nodup_iff (List.Perm.map _ p)).mp r.nd,.nil⟩
theorem SQ {hT h₀:Heap}{L:Addr}{h h':Heap}{m m':Str→Option Value}{σ σ':Sto}{c c':Cs}{fx:Led}(r:Rep hT h₀ L h m σ c fx)(r':Rep hT h₀ L h' m' σ' c' (c.ml++fx))(l:({ad:=[],ml:=[],pl:=c.pl}:Cs).le c'):Rep hT h₀ L h' m' σ {ad:=c.ad,ml:=c.ml,pl:=c'.pl} fx:=by
  have p:(c'.pl++(c.ml++fx)).Perm (c.ml++(c'.pl++fx)):=List.perm_append_comm_assoc _ _ _;refine ⟨r'.fr,Cn r'.nw fun q hq=>List.mem_append.mpr (.inr (p.mem_iff.mpr hq)),?_,r.so.mono (Rc.mono (c:=c) (c':={ad:=c.ad,ml:=c.ml,pl:=c'.pl}) ⟨⟨[],by simp⟩,l.pl⟩)⟩;have nd:=r'.nd;rw [List.map_append,List.nodup_append] at nd;exact (List.Perm.nodup_iff (List.Perm.map _ p)).mp nd.2.1
theorem Nt {hT:Heap}{c:Cs}:∀ {ds:List D} {vals:List Value},Rl hT c (ds.map .d) vals→Rl hT {ad:=[],ml:=[],pl:=c.pl} (ds.map .d) vals
  | [],_,.nil=>.nil
  | _::_,_,.cons h t=>.cons h (Nt t)
theorem Bj {G:Gl}{lv:Nat}{f:Value}{t:CS}(h:Ao G lv f t):Ao G lv f (Bt t):=by
  intro A h₀ L m fx σ c s args vals Q Qc E P ra q k;obtain ⟨ds,rfl,q⟩:=q;refine h A h₀ L m (c.ml++fx) [] {ad:=[],ml:=[],pl:=c.pl} s _ vals _ Qc E ⟨P.cx,We P.rep⟩ (Nt ra) q ?_;rintro a σ' v h' tk c' ⟨d,rfl,q'⟩ r' l' x';exact k _ _ v h' tk _ q' (SQ P.rep r' l') ⟨⟨[],by simp⟩,l'.pl⟩ x'
theorem KO {G:Gl}{lv:Nat}{f:Value}{t:CS}(h:RV G lv f t):RV G lv f (Bt t):=by
  intro A h₀ L m fx σ c s args vals Q Qc P ra q k;obtain ⟨ds,rfl,q⟩:=q;refine h A h₀ L m (c.ml++fx) [] {ad:=[],ml:=[],pl:=c.pl} s _ vals _ Qc ⟨P.cx,We P.rep⟩ (Nt ra) q ?_;rintro a σ' v h' tk c' ⟨d,rfl,q'⟩ r' l' x';exact k _ _ v h' tk _ q' (SQ P.rep r' l') ⟨⟨[],by simp⟩,l'.pl⟩ x'
noncomputable def Mg (t:TE):TE:=fun ρ σ Q=>t ρ σ fun a σ'=>match a with
  | .d (.int i)=>Q (.d (.int (-i))) σ'
  | _=>False
noncomputable def D6:List Nat→List AV→Lo→Lo
  | i::is,a::as,ρ=>D6 is as (ρ.set i (some a))
  | _,_,ρ=>ρ
noncomputable def Z2 (is:List Nat)(ts:TEs):TS:=fun ρ σ Q=>ts ρ σ fun l σ'=>l.length≤sizeLine∧l.length=is.length∧Q .next (D6 is l ρ) σ'
noncomputable def HM (is:List Nat)(ts:TEs):TS:=fun ρ σ Q=>ts ρ σ fun l σ'=>l.length≤sizeLine∧l.length=is.length∧Q .next (D6 is.reverse l.reverse ρ) σ'
section
variable {G:Gl}{lv:Nat}{env:Env}{vars:List Str}
theorem S_neg {e:Expr}{pos:Pos}{t:TE}(h:Au G lv env vars e t):Au G lv env vars (.UnaryOp .USub e pos) (Mg t):=by
  intro A h₀ L m fx ρ σ c s Q Qc E P q k;refine wpAny_UnaryOp (h A h₀ L m fx ρ σ c s _ _ E P q fun a σ₁ v h₁ tk₁ c₁ q₁ r₁ l₁ x₁=>?_)
  try dsimp only at q₁
  split at q₁
  · obtain ⟨u,rfl⟩:=DY x₁
    exact PyProof.Rows.neg_int (k _ _ _ h₁ _ c₁ q₁ r₁ l₁ (.int _ _))
  · exact q₁.elim
set_option tactic.hygienic true in
theorem A0M {A:Around}{h₀:Heap}{L:Addr}{m:Str→Option Value}{cl fx:Led}{ρ:Lo}{σ:Sto}{c:Cs}{s:Shared}{i:Nat}{x:Str}{a:AV}{v:Value}{Qc:Unit→Shared→Prop}{E:Value→Shared→Prop}
    (he:BJ env)(hx:vars[i]? = some x)(hnd:vars.Nodup)(hk:env.kindOf x=some .cell)(hinj:∀ y b,env.cells.lookup y=some b→env.cells.lookup x=some b→y=x)(P:PlS G lv env vars A h₀ L m cl fx ρ σ c s)(ra:Rc G.hT c a v)
    (k:∀ cl' h' tk,PlS G lv env vars A h₀ L m cl' fx (ρ.set i (some a)) σ c {s with heap:=h',toks:=tk}→Qc () {s with heap:=h',toks:=tk}):wpAny (model G.prog G.w) A (storeName env x v) Qc E s:=by
  obtain ⟨b,o,v₀,hb,hm,hd⟩:=P.ce x hk;obtain ⟨pre,post,rfl⟩:=List.append_of_mem hm;have p1:((pre++(b,o)::post)++fx).Perm ([(b,o)]++(pre++(post++fx))):=by
    rw [List.append_assoc];exact List.perm_middle
  have r1:=P.pl.rep.perm p1;have gb:=(r1.nwf (p:=(b,o)) (.head _)).1;refine wpAny_storeName_cell he.kind hk hb ⟨o,gb,hd⟩ fun h' hv hs=>?_;obtain ⟨o',go',hd'⟩:=hv;have r2:Rep G.hT h₀ L h' m σ c ([(b,o')]++(pre++(post++fx))):=Rep.il (il:=[(b,o)]) r1 (fun x y hx e=>(hs.2 x (ne1 hx)).trans e) (fun p hp=>by rw [List.mem_singleton.mp hp];exact go') rfl;have p2:([(b,o')]++(pre++(post++fx))).Perm ((pre++(b,o')::post)++fx):=by
    rw [List.append_assoc];show ((b,o')::(pre++(post++fx))).Perm (pre++(b,o')::(post++fx));exact List.perm_middle.symm
  refine k (pre++(b,o')::post) h' _ ⟨⟨P.pl.cx,r2.perm p2,?_⟩,P.loc,fun y hy=>?_⟩
  · have other:∀ {d:Addr} {od:Obj},d≠b→(d,od)∈(pre++(b,o)::post)++fx→(d,od)∈(pre++(b,o')::post)++fx:=by
      intro d od hne hmem;simp only [List.mem_append,List.mem_cons,Prod.mk.injEq] at hmem ⊢;rcases hmem with (h | ⟨h,_⟩ | h) | h
      · exact .inl (.inl h)
      · exact absurd h hne
      · exact .inl (.inr (.inr h))
      · exact .inr h
    intro j av e;rw [List.getElem?_set] at e;split at e
    · rename_i hj
      subst hj;split at e
      · cases e
        exact ⟨x,v,hx,ra,.cel hk (.inl rfl) hb (by simp) hd'⟩
      · cases e
    · rename_i hj
      obtain ⟨y,u,h1,h2,h3⟩:=P.pl.nr j av e;refine ⟨y,u,h1,h2,?_⟩;have hy:y≠x:=by
        rintro rfl;have hlt:i < vars.length:=by rw [List.getElem?_eq_some_iff] at hx;exact hx.1
        exact hj ((List.getElem?_inj hlt hnd).mp (hx.trans h1.symm))
      cases h3 with
      | loc q1 q2 q3=>exact .loc q1 q2 q3
      | blk q1 q2 q3 q4 =>
        refine .blk q1 (other ?_ q2) q3 q4;intro e2;have z:=(r1.nwf (p:=(b,o)) (.head _)).2.1;exact z (e2 ▸ P.loc)
      | cel q1 q2 q3 q4 q5=>exact .cel q1 q2 q3 (other (fun e2=>hy (hinj y b (e2 ▸ q3) hb)) q4) q5
  · obtain ⟨d,od,v₁,e1,e2,e3⟩:=P.ce y hy
    by_cases hd2:d=b
    · subst hd2
      exact ⟨d,o',_,e1,by simp,hd'⟩
    · refine ⟨d,od,v₁,e1,?_,e3⟩
      simp only [List.mem_append,List.mem_cons,Prod.mk.injEq] at e2 ⊢;rcases e2 with h | ⟨h,_⟩ | h
      · exact .inl h
      · exact absurd h hd2
      · exact .inr (.inr h)
noncomputable def Pd (env:Env)(x:Str):Prop:=env.kindOf x=some .local∨(env.kindOf x=some .cell∧∀ y b,env.cells.lookup y=some b→env.cells.lookup x=some b→y=x)
theorem UY {A:Around}{h₀:Heap}{L:Addr}{m:Str→Option Value}{cl fx:Led}{ρ:Lo}{σ:Sto}{c:Cs}{s:Shared}{i:Nat}{x:Str}{a:AV}{v:Value}{Qc:Unit→Shared→Prop}{E:Value→Shared→Prop}
    (he:BJ env)(hx:vars[i]? = some x)(hnd:vars.Nodup)(hk:Pd env x)(P:PlS G lv env vars A h₀ L m cl fx ρ σ c s)(ra:Rc G.hT c a v)
    (k:∀ m' cl' h' tk,PlS G lv env vars A h₀ L m' cl' fx (ρ.set i (some a)) σ c {s with heap:=h',toks:=tk}→Qc () {s with heap:=h',toks:=tk}):wpAny (model G.prog G.w) A (storeName env x v) Qc E s:=by
  rcases hk with hk | ⟨hk,hinj⟩
  · exact KN he hx hnd hk P ra fun m' h' tk P'=>k m' cl h' tk P'
  · exact A0M he hx hnd hk hinj P ra fun cl' h' tk P'=>k m cl' h' tk P'
theorem Sr {n:Nat}{names:List (Str×NameKind)}{x y:Str}{b:Addr} (h1:(cellsFrom n names []).lookup y=some b) (h2:(cellsFrom n names []).lookup x=some b):y=x:=by
  have nd:=(Cz names n [] (by simp) (by simp)).1;generalize cellsFrom n names []=l at *;have m1:=mem_of_lookup h1;have m2:=mem_of_lookup h2
  induction l with
  | nil=>cases m1
  | cons p r ih =>
    rw [List.map_cons,List.nodup_cons] at nd;rcases List.mem_cons.mp m1 with e1 | m1 <;> rcases List.mem_cons.mp m2 with e2 | m2
    · exact congrArg Prod.fst (e1.trans e2.symm)
    · exact absurd (List.mem_map_of_mem (f:=(·.2)) m2) (by rw [← e1] at nd;exact nd.1)
    · exact absurd (List.mem_map_of_mem (f:=(·.2)) m1) (by rw [← e2] at nd;exact nd.1)
    · by_cases hy:p.2=b
      · exact absurd (List.mem_map_of_mem (f:=(·.2)) m1) (by rw [hy] at nd;exact nd.1)
      · refine ih ?_ ?_ nd.2 m1 m2
        · obtain (⟨pn,pb⟩):=p
          rw [List.lookup_cons] at h1;split at h1
          · cases h1;exact absurd rfl hy
          · exact h1
        · obtain (⟨pn,pb⟩):=p
          rw [List.lookup_cons] at h2;split at h2
          · cases h2;exact absurd rfl hy
          · exact h2
noncomputable def LR (env:Env)(vars:List Str):List Nat→List Expr→Prop
  | [],[]=>True
  | i::is,e::es=>(∃ x p,e=.Name x p∧vars[i]? = some x∧Pd env x)∧LR env vars is es
  | _,_=>False
theorem M8:∀ {is:List Nat}{es:List Expr},LR env vars is es→(assignEach es env).length=is.length∧(assignEach es env).findIdx? (·.1)=none
  | [],[],_=>⟨rfl,rfl⟩
  | i::is,e::es,⟨⟨x,p,h,_⟩,r⟩=>by
    subst h;obtain ⟨h1,h2⟩:=M8 r;have e1:assignEach (.Name x p::es) env=(false,assign (.Name x p) env)::assignEach es env:=rfl;rw [e1];exact ⟨by rw [List.length_cons,List.length_cons,h1],by rw [List.findIdx?_cons];simp [h2]⟩
  | [],_::_,h=>h.elim
  | _::_,[],h=>h.elim
theorem YU (he:BJ env)(hnd:vars.Nodup){A:Around}{h₀:Heap}{L:Addr}{fx:Led}{σ:Sto}{c:Cs}{Qc:Unit→Shared→Prop}{E:Value→Shared→Prop}:∀ {is:List Nat} {es:List Expr} {l:List AV} {vs:List Value} {m:Str→Option Value} {cl:Led} {ρ:Lo} {s:Shared},
    LR env vars is es→B1 (Rc G.hT c) l vs→l.length=is.length→PlS G lv env vars A h₀ L m cl fx ρ σ c s →
    (∀ m' cl' h' tk,PlS G lv env vars A h₀ L m' cl' fx (D6 is l ρ) σ c {s with heap:=h',toks:=tk}→Qc () {s with heap:=h',toks:=tk})→wpAny (model G.prog G.w) A (assignInOrder ((assignEach es env).map (·.2)) vs) Qc E s:=by
  intro is
  induction is with
  | nil =>
    intro es l vs m cl ρ s hn hd hl P k;cases es with
    | cons=>exact hn.elim
    | nil=>cases l with
      | cons=>cases hl
      | nil=>cases hd;exact wpAny_pure (k m cl s.heap s.toks P)
  | cons i is ih =>
    intro es l vs m cl ρ s hn hd hl P k;cases es with
    | nil=>exact hn.elim
    | cons e es=>cases l with
      | nil=>cases hl
      | cons a l =>
        obtain ⟨⟨x,p,rfl,h1,h2⟩,r⟩:=hn;cases hd with
        | @cons _ v _ vs hv hr =>
          show wpAny _ _ (do holding vs (assign (.Name x p) env v);assignInOrder ((assignEach es env).map (·.2)) vs) _ _ _;exact wpAny_bind (wpAny_holding (wpAny_assign_Name (UY he h1 hnd h2 P hv fun m' cl' h' tk P'=>ih r hr (Nat.succ.inj hl) P' fun m₂ cl₂ h₂ tk₂ P₂=>k m₂ cl₂ h₂ tk₂ P₂)))
noncomputable def Nf (env:Env)(vars:List Str):List Nat→List Str→Prop
  | [],[]=>True
  | i::is,x::xs=>(vars[i]? = some x∧Pd env x)∧Nf env vars is xs
  | _,_=>False
theorem YV (he:BJ env)(hnd:vars.Nodup){A:Around}{h₀:Heap}{L:Addr}{fx:Led}{σ:Sto}{c:Cs}{Qc:Unit→Shared→Prop}{E:Value→Shared→Prop}:∀ {is:List Nat} {xs:List Str} {l:List AV} {vs:List Value} {m:Str→Option Value} {cl:Led} {ρ:Lo} {s:Shared},
    Nf env vars is xs→B1 (Rc G.hT c) l vs→l.length=is.length→PlS G lv env vars A h₀ L m cl fx ρ σ c s →
    (∀ m' cl' h' tk,PlS G lv env vars A h₀ L m' cl' fx (D6 is l ρ) σ c {s with heap:=h',toks:=tk}→Qc () {s with heap:=h',toks:=tk})→wpAny (model G.prog G.w) A (assignInOrder (xs.map fun n=>bindName env n) vs) Qc E s:=by
  intro is
  induction is with
  | nil =>
    intro es l vs m cl ρ s hn hd hl P k;cases es with
    | cons=>exact hn.elim
    | nil=>cases l with
      | cons=>cases hl
      | nil=>cases hd;exact wpAny_pure (k m cl s.heap s.toks P)
  | cons i is ih =>
    intro es l vs m cl ρ s hn hd hl P k;cases es with
    | nil=>exact hn.elim
    | cons e es=>cases l with
      | nil=>cases hl
      | cons a l =>
        obtain ⟨⟨h1,h2⟩,r⟩:=hn;cases hd with
        | @cons _ v _ vs hv hr =>
          show wpAny _ _ (do holding vs (bindName env e v);assignInOrder (es.map fun n=>bindName env n) vs) _ _ _;exact wpAny_bind (wpAny_holding (wpAny_bindName (UY he h1 hnd h2 P hv fun m' cl' h' tk P'=>ih r hr (Nat.succ.inj hl) P' fun m₂ cl₂ h₂ tk₂ P₂=>k m₂ cl₂ h₂ tk₂ P₂)))
theorem QN {es:List Expr}{k₁:Nat}{pos:Pos}{ts:TEs}{A:Around}{h₀:Heap}{L:Addr}{m:Str→Option Value}{fx:Led}{ρ:Lo}{σ:Sto}{c:Cs}{s:Shared}{Q:List AV→Sto→Prop}{Qc:Value→Shared→Prop}{E:Value→Shared→Prop}
    (hs:Bw G lv env vars es ts)(P:Pl G lv env vars A h₀ L m fx ρ σ c s)(q:ts ρ σ Q)
    (k:∀ l σ₁ vs x n h₁ tk₁ c₁,Q l σ₁→vs.length≤sizeLine→Rep G.hT h₀ L h₁ m σ₁ c₁ fx→c.le c₁→Rl G.hT c₁ l vs→h₁.get? x=some {cls:=.type "tuple",data:=.seq vs.toArray n}→Qc (.ref x) {s with heap:=h₁,toks:=tk₁})
    (hz:∀ l σ₁,Q l σ₁→l.length≤sizeLine):wpAny (model G.prog G.w) A (eval (.Tuple es k₁ pos) env) Qc E s:=by
  refine Tuple_ (hs pos A h₀ L m fx ρ σ c s _ _ E P q fun l σ₁ vs h₁ tk₁ c₁ q₁ r₁ l₁ x₁=>?_);have z:=hz _ _ q₁;rw [x₁.length] at z;refine wpAny_newTuple ?_ z;exact k l σ₁ vs _ 0 _ tk₁ c₁ q₁ z (Rep.drop (il:=[_]) (r₁.addF _)) l₁ x₁ (Heap.get?_push_size _ rfl)
set_option tactic.hygienic true in
theorem A5y {is:List Nat}{elts es:List Expr}{k k₁:Nat}{tpos vpos pos:Pos}{ts:TEs}(he:BJ env)(hnd:vars.Nodup)(hn:LR env vars is elts)(hs:Bw G lv env vars es ts)
    (h1:swapsWithSole [.Tuple elts k tpos] (.Tuple es k₁ vpos) pos.line env=pure false) (h2:swappedStores [.Tuple elts k tpos] (.Tuple es k₁ vpos) env=pure none) :
    Ca G lv env vars (.Assign [.Tuple elts k tpos] (.Tuple es k₁ vpos) pos) (Z2 is ts):=by
  intro A h₀ L m cl fx ρ σ c s Q Qc E P q kk;refine Assign_Tuple (QN (Q:=fun l σ'=>l.length≤sizeLine∧l.length=is.length∧Q .next (D6 is l ρ) σ') hs P.pl q (fun l σ₁ vs x n h₁ tk₁ c₁ q₁ z r₁ l₁ x₁ g=>?_) fun _ _ h=>h.1) h1 h2;obtain ⟨_,hl,q₁⟩:=q₁;obtain ⟨n1,n2⟩:=M8 hn;refine wpAny_assign_Tuple (s:={s with heap:=h₁,toks:=tk₁}) P.pl.cx.hh ⟨_,g,rfl,_,rfl⟩ (by rw [n1,List.size_toArray,← x₁.length,hl]) n2 fun h' hs'=>?_;have R':Rep G.hT h₀ L h' m σ₁ c₁ (cl++fx):=r₁.grow fun b o e=>hs' b o (Nat.ne_of_lt (Heap.lt_size e)) e;exact YU he hnd hn x₁ hl (P.next (tk:=tk₁) R' l₁) fun m' cl' h'' tk P'=>kk _ _ _ _ _ _ _ _ _ q₁ P' l₁ .next
set_option tactic.hygienic true in
theorem A5x {is:List Nat}{names:List Str}{elts es:List Expr}{k k₁:Nat}{tpos vpos pos:Pos}{ts:TEs}(he:BJ env)(hnd:vars.Nodup)(hn:Nf env vars is.reverse names.reverse)(hln:names.length=is.length)(hs:Bw G lv env vars es ts)
    (h1:swapsWithSole [.Tuple elts k tpos] (.Tuple es k₁ vpos) pos.line env=pure false) (h2:swappedStores [.Tuple elts k tpos] (.Tuple es k₁ vpos) env=pure (some names)) :
    Ca G lv env vars (.Assign [.Tuple elts k tpos] (.Tuple es k₁ vpos) pos) (HM is ts):=by
  intro A h₀ L m cl fx ρ σ c s Q Qc E P q kk;refine Assign_Tuple_swapped (QN (Q:=fun l σ'=>l.length≤sizeLine∧l.length=is.length∧Q .next (D6 is.reverse l.reverse ρ) σ') hs P.pl q (fun l σ₁ vs x n h₁ tk₁ c₁ q₁ z r₁ l₁ x₁ g=>?_) fun _ _ h=>h.1) h1 h2;obtain ⟨_,hl,q₁⟩:=q₁;have hvs:vs.toArray.size=names.length:=by rw [List.size_toArray,← x₁.length,hl,hln]
  rw [← hvs];refine wpAny_unpackItems_tuple (s:={s with heap:=h₁,toks:=tk₁}) P.pl.cx.hh ⟨_,g,rfl,_,rfl⟩ fun h' hs'=>?_;have R':Rep G.hT h₀ L h' m σ₁ c₁ (cl++fx):=r₁.grow fun b o e=>hs' b o (Nat.ne_of_lt (Heap.lt_size e)) e;exact YV he hnd hn (by simpa using x₁.reverse) (by simpa using hl) (P.next (tk:=tk₁) R' l₁) fun m' cl' h'' tk P'=>kk _ _ _ _ _ _ _ _ _ q₁ P' l₁ .next
end
theorem A1a {G:Gl}{lv:Nat}{A:Around}{h₀:Heap}{L:Addr}(C:Cx G lv A h₀ L):sysModules < h₀.objs.size:=by
  have h:=(C.T.g).lt;exact Nat.lt_trans (by decide) h
noncomputable def QL:TE:=fun ξ σ Q=>Q (.d (.dict [])) σ
noncomputable def N4 (Dt:List (PyData×PyData))(te:TE):TE:=fun ρ σ Q=>te ρ σ fun a σ'=>match a with
  | .d (.int i)=>(match PySem.Spec.lookup (.int i) Dt with
    | some (.int j)=>Q (.d (.int j)) σ'
    | _=>False)
  | _=>False
section
variable {G:Gl}{lv:Nat}{env:Env}{vars:List Str}
theorem A3m {pos:Pos}:Au G lv env vars (.Dict [] [] pos) QL:=by
  intro A h₀ L m fx ρ σ c s Q Qc E P q k;rw [eval_Dict_empty];refine wpAny_bind (wpAny_standAt ?_);refine wpAny_newObj_type ?_ (by size_fits);have N:=News.push P.rep.fr P.rep.nw {cls:=.type "dict",data:=.dict #[]};have r:=P.rep.addP (a:=s.heap.objs.size) (o:={cls:=.type "dict",data:=.dict #[]}) (P.rep.fr.push _) N P.rep.lt;exact k _ _ _ _ s.toks _ q r HB (.dict (n:=0) (P.rep.fr.notModules (A1a P.cx)) (.inl (.head _)) .nil)
set_option tactic.hygienic true in
theorem Zh {keys:List (Option Expr)}{values:List Expr}{slice:Expr}{dpos pos:Pos}{Dt:List (PyData×PyData)}{te:TE}(he:Au G lv env vars slice te)
    (hD:litPairs keys values=some Dt)(hk:intKeyed Dt=true)(hn:(intKeysOf Dt).Nodup)(hall:keys.all (·.isSome)=true)(hl:keys.length=values.length) (h0:keys≠[])(hlen:keys.length≤15)
    (hs:∀ d i t,subscripted slice false (.ref d) (.int i t)=operate [.ref d,.int i t] (getItem (.ref d) (.int i t))) :
    Au G lv env vars (.Subscript (.Dict keys values dpos) slice pos) (N4 Dt te):=by
  intro A h₀ L m fx ρ σ c s Q Qc E P q k;refine Subscript_ (Dict_lits_int hD hk hn hall hl h0 hlen fun a o h₁ tk ha ho hT hk₁=>?_);have r₁:Rep G.hT h₀ L h₁ m σ c fx:=P.rep.grow hk₁;have hlt:a < h₁.objs.size:=Heap.lt_size ho;have hnew:h₀.get? a=none:=by
    cases e:h₀.get? a with
    | none=>rfl
    | some o'=>exact absurd (Nat.lt_of_lt_of_le (Heap.lt_size e) (Nat.le_trans P.rep.fr.above (Nat.le_of_lt (P.rep.fr.ns.lt)))) (Nat.not_lt.mpr ha)
  have haL:a≠L:=fun e=>absurd P.rep.fr.ns.lt (Nat.not_lt.mpr (e ▸ ha));have r₂:Rep G.hT h₀ L h₁ m σ c ((a,o)::fx):=by
    refine ⟨r₁.fr,?_,?_,r₁.so⟩
    · intro p hp
      simp only [List.mem_append,List.mem_cons] at hp;rcases hp with hp | hp | rfl | hp
      · exact r₁.nw p (by simp [hp])
      · exact r₁.nw p (by simp [hp])
      · exact ⟨ho,haL,hnew⟩
      · exact r₁.nw p (by simp [hp])
    · have key:(((a,o)::(c.ml++(c.pl++fx))).map (·.1)).Nodup:=by
        rw [List.map_cons,List.nodup_cons];refine ⟨fun hm=>?_,r₁.nd⟩;obtain ⟨p,hp,e⟩:=List.mem_map.mp hm;have z:=P.rep.lt p hp;rw [e] at z;exact absurd z (Nat.not_lt.mpr ha)
      refine (List.Perm.nodup_iff (List.Perm.map _ ?_)).mp key;rw [← List.append_assoc,← List.append_assoc];exact List.perm_middle.symm
  have P₂:Pl G lv env vars A h₀ L m ((a,o)::fx) ρ σ c {s with heap:=h₁,toks:=tk}:=⟨P.cx,r₂,fun i av e=>by
    obtain ⟨y,v,h1,h2,h3⟩:=P.nr i av e;refine ⟨y,v,h1,h2,?_⟩;cases h3 with
    | loc b d e=>exact .loc b d e
    | blk b d e f=>exact .blk b (.tail _ d) e f
    | cel b d e f g=>exact .cel b d e (.tail _ f) g⟩
  refine he A h₀ L m _ ρ σ c _ _ _ E P₂ q fun b σ₃ vb h₃ tk₃ c₃ q₃ r₃ l₃ x₃=>?_
  try dsimp only at q₃
  split at q₃
  · rename_i i
    obtain ⟨t,rfl⟩:=DY x₃;split at q₃
    · rename_i j ej
      have g₃:h₃.get? a=some o:=(r₃.nwf (p:=(a,o)) (.head _)).1;obtain ⟨kvs,hd,hf⟩:=hT;have hm:=Heap.DictOf.mapOf (Heap.dictOf_iff.mpr ⟨o,g₃,hd⟩);have key:∃ u,valueAt kvs i=some (.int j u):=by
        cases ev:valueAt kvs i with
        | none=>have z:=hf.absent PyProof.V.same_int ev;rw [ej] at z;cases z
        | some v =>
          obtain ⟨d,e1,e2⟩:=hf.there PyProof.V.same_int ev;rw [ej] at e1;cases e1;obtain ⟨u,rfl⟩:=e2.int_inv;exact ⟨u,rfl⟩
      obtain ⟨u,er⟩:=key;refine tail_any (s:={s with heap:=h₃,toks:=tk₃}) hm.typeIs slot_dict_getitem.lookup (wpAny_getItem_of (intKind_is G.prog G.w i t) hm er ?_) (hs _ _ _);exact k _ _ _ h₃ _ c₃ q₃ (Rep.drop (il:=[(a,o)]) r₃) l₃ (.int _ _)
    · exact q₃.elim
  · exact q₃.elim
noncomputable def Vo (C:Addr)(t:CS):CS:=fun args σ Q=>t (.loc σ.length::args) (σ ++ [.inst C []]) fun a σ'=>a=.d .none∧Q (.loc σ.length) σ'
theorem Cx.under {A:Around}{h₀:Heap}{L:Addr}{C:Addr}{vals:List Value}(X:Cx G lv A h₀ L)(hl:0 < lv):Cx G (lv - 1) (A.under (.builtin "type.__call__" ⟨.ref C::vals,[]⟩)) h₀ L:=by
  obtain ⟨A₀,base,outer,fe,hB,hf,ho⟩:=X.fe;refine ⟨X.st,X.hh,?_,?_,A₀,base,outer,fe,hB,hf,ho⟩
  · have:=X.dep
    rw [depth_under_kw];omega
  · have:=X.un
    have e:(A.under (.builtin "type.__call__" ⟨.ref C::vals,[]⟩)).units=A.units+1:=rfl;rw [e];omega
theorem Sl {C fI:Addr}{t:CS}(hl:0 < lv)(hm:makesIn G.K C=true)(hi:findIn G.K (.ref C) "__init__" = some (some (.ref fI)))(hf:isFn G.K (.ref fI)=true)(h:AY G (lv - 1) (.ref fI) t):Ao G lv (.ref C) (Vo C t):=by
  intro A h₀ L m fx σ c s args vals Q Qc E P ra q k;refine call_cls P.F P.cx.X P.N hm hi hf fun x dx h' F' N' hlt hdx=>?_;have r':Rep G.hT h₀ L h' m (σ ++ [.inst C []]) {c with ad:=c.ad++[x],ml:=c.ml++[(x,instObj C dx),(dx,dictOf [] 0)]} fx:=by
    refine P.rep.addM F' N' (mid:=[(x,instObj C dx),(dx,dictOf [] 0)]) (fun qq hq p hp=>?_) ?_ ⟨_,_,_,.nil,rfl⟩
    · have z:=hlt p hp
      rcases List.mem_cons.mp hq with rfl | hq
      · exact Nat.lt_trans z hdx
      · rw [List.mem_singleton.mp hq];exact z
    · simp only [List.map_cons,List.map_nil,List.nodup_cons,List.mem_singleton,List.not_mem_nil,not_false_eq_true,List.nodup_nil,and_self,and_true]
      exact Nat.ne_of_gt hdx
  have l':c.le {c with ad:=c.ad++[x],ml:=c.ml++[(x,instObj C dx),(dx,dictOf [] 0)]}:=GK
  have rx:Rc G.hT {c with ad:=c.ad++[x],ml:=c.ml++[(x,instObj C dx),(dx,dictOf [] 0)]} (.loc σ.length) (.ref x):=HK P.rep.so.length
  refine h (A.under (.builtin "type.__call__" ⟨.ref C::vals,[]⟩)) h₀ L m fx _ _ {s with heap:=h'} _ (.ref x::vals) _ _ ⟨P.cx.under hl,r'⟩ (.cons rx (ra.mono (Rc.mono l'))) q ?_
  rintro a σ₂ v h₂ tk₂ c₂ ⟨rfl,q₂⟩ r₂ l₂ x₂;obtain rfl:=KU x₂;exact ⟨rfl,k _ _ _ h₂ tk₂ c₂ q₂ r₂ (l'.trans l₂) (Rc.mono l₂ _ _ rx)⟩
end
noncomputable def D0 (it:Addr)(i:Int)(old:Value):Obj:={cls:=.type "enumerate",dict:=none,data:=.fields #[.none,.bool false,.ref it,rawInt i,.none,old],slots:=#[]}
noncomputable def SE (e it:Addr)(hT:Heap)(av:AV)(i:Nat)(il:Led)(c:Cs):Prop:=e≠it∧∃ o l old,il=[(e,D0 it i old),(it,o)]∧o.cls=.type "list_iterator" ∧ o.data=.fields #[.ref l,.int i 0]∧Rc hT c av (.ref l)
noncomputable def U7 (e:Expr):Prop:=∃ elts k p,e=.Tuple elts k p
section
variable {G:Gl}
set_option tactic.hygienic true in
theorem ZT {e it:Addr}{av:AV}:T9 G U7 e (SE e it G.hT av) (Of av) where
  mono:=fun l ⟨h0,o,a,old,h1,h2,h3,h4⟩=>⟨h0,o,a,old,h1,h2,h3,Rc.mono l _ _ h4⟩
  fld:=fun ⟨_,o,a,old,h1,h2,h3,h4⟩ p hp=>by
    subst h1;rcases List.mem_cons.mp hp with rfl | hp
    · exact ⟨_,rfl⟩
    · rw [List.mem_singleton.mp hp];exact ⟨_,h3⟩
  self:=fun h=>by
    obtain ⟨_,_,_,e⟩:=h (.Constant .none 0 default);cases e
  next:=by
    intro lv A h₀ L m fx σ c s i il a P ⟨hne,o,l,old,h1,h2,h3,h4⟩ hit target htg Q E k;subst h1;obtain ⟨elts,k₁,p₁,rfl⟩:=htg;have ge:s.heap.get? e=some (D0 it i old):=(P.rep.nwf (p:=(e,D0 it i old)) (.head _)).1;have go:s.heap.get? it=some o:=(P.rep.nwf (p:=(it,o)) (.tail _ (.head _))).1;obtain ⟨its,e1,e2⟩:=Option.bind_eq_some_iff.mp hit;obtain ⟨x,vs,kx,hx,g1,g2⟩:=Bo P h4 e1;cases hx;split at e2
    · cases e2
    · rename_i d ed
      cases e2;obtain ⟨v,hv,rv⟩:=g2.get ed;refine wpAny_pyNext_enum_item ge ⟨o,go,h2,h3⟩ (BV g1) (by rw [List.getElem?_toArray];exact hv) hne fun h' he' hi' ht' hz hk=>⟨_,rfl,?_⟩;refine wpAny_letOwnedTupleGo_enum (s:={s with heap:=h',toks:=s.toks+1}) he' fun h₂ he₂ hs₂=>?_;obtain ⟨o',ho',hc',hd'⟩:=hi';have hek:∀ b ob,b ∉ ([(e,D0 it i old),(it,o)]:Led).map (·.1)→s.heap.get? b=some ob→h₂.get? b=some ob:=fun b ob hb ee=>by
        simp only [List.map_cons,List.map_nil,List.mem_cons,List.not_mem_nil,or_false,not_or] at hb;exact (hs₂.2 b hb.1).trans (hk b ob hb.1 hb.2 ee)
      have r₂:Rep G.hT h₀ L h₂ m σ c ([(e,D0 it ((i:Int)+1) v),(it,o')]++fx):=P.rep.il hek (fun p hp=>by
        rcases List.mem_cons.mp hp with rfl | hp
        · exact he₂
        · rw [List.mem_singleton.mp hp];exact (hs₂.2 it (Ne.symm hne)).trans ho') rfl
      have hlt:e < s.heap.objs.size:=Heap.lt_size ge;have hT₂:h₂.get? s.heap.objs.size=some {cls:=.type "tuple",data:=.seq #[.int i s.toks,v]}:=(hs₂.2 _ (Nat.ne_of_gt hlt)).trans ht';have hsz:h₂.objs.size=s.heap.objs.size+1:=hs₂.1.trans hz;have Nw:News h₀ L h₂ ((s.heap.objs.size,({cls:=.type "tuple",data:=.seq #[.int i s.toks,v]}:Obj))::(c.ml++(c.pl++([(e,D0 it ((i:Int)+1) v),(it,o')]++fx)))):=fun p hp=>by
        rcases List.mem_cons.mp hp with rfl | hp
        · refine ⟨hT₂,Nat.ne_of_gt P.rep.fr.ns.lt,?_⟩
          cases e9:h₀.get? s.heap.objs.size with
          | none=>rfl
          | some o9=>exact absurd (Heap.lt_size (P.rep.fr.keep _ _ e9)) (Nat.lt_irrefl _)
        · exact r₂.nw p hp
      have r₃:=r₂.addP r₂.fr Nw fun p hp=>by
        have key:p.1∈(c.ml++(c.pl++([(e,D0 it i old),(it,o)]++fx))).map (·.1):=by
          have z:=List.mem_map_of_mem (f:=(·.1)) hp
          simpa only [List.map_append,List.map_cons] using z
        obtain ⟨p',hp',e9⟩:=List.mem_map.mp key;rw [← e9];exact P.rep.lt p' hp'
      refine k _ _ h₂ _ _ r₃ HB ⟨hne,o',l,v,?_,hc',by rw [hd'],Rc.mono HB _ _ h4⟩ ?_
      · rfl
      · refine .tup (vs:=[.int i s.toks,v]) (n:=0) (.inl (.head _)) (.cons (.int _ _) (.cons ?_ .nil))
        exact Dn.mono (Pm.mono fun p hp=>.tail _ hp) rv
    · cases e2
  done:=by
    intro lv A h₀ L m fx σ c s i il P ⟨hne,o,l,old,h1,h2,h3,h4⟩ hit Q E k;subst h1;have ge:s.heap.get? e=some (D0 it i old):=(P.rep.nwf (p:=(e,D0 it i old)) (.head _)).1;have go:s.heap.get? it=some o:=(P.rep.nwf (p:=(it,o)) (.tail _ (.head _))).1;obtain ⟨its,e1,e2⟩:=Option.bind_eq_some_iff.mp hit;obtain ⟨x,vs,kx,hx,g1,g2⟩:=Bo P h4 e1;cases hx;split at e2
    · rename_i en
      refine wpAny_pyNext_enum_end P.cx.hh ge ⟨o,go,h2,h3⟩ (BV g1) ?_ fun h' hs=>k h' s.toks (P.rep.gone fun b ob hb ee=>?_)
      · simp only [List.getElem?_toArray,List.getElem?_eq_none_iff] at en ⊢
        rw [← g2.length];exact en
      · simp only [List.map_cons,List.map_nil,List.mem_cons,List.not_mem_nil,or_false,not_or] at hb
        exact hs b ob hb.2 ee
    · cases e2
    · cases e2
end
open Builtin
section
variable {prog:Program}{w:World}{A:Around}{s:Shared}
theorem Ry {id:String}{args:Args}{b:Builtin}{R:Flow→Shared→Prop}(ok:okC (.builtin id args)=true)(hp:plainId id=true)(hb:entryFor table id=some b)(h:wpR (model prog w) A.in1 (b args) (A2V (model prog w) A R) s):Fx (model prog w) A (.builtin id args) R s:=by
  refine DT ok ?_;rw [Around.under_plainId hp args];show wpR _ _ (match entryFor table id with | some b=>b args | none=>unsupported ((withoutEnding? id "#data").getD id)) _ s;rw [hb];exact h
theorem H9 {id:String}{args:Args}{b:Builtin}{R:Flow→Shared→Prop}(ok:okC (.builtin id args)=true)(hp:plainId id=true)(hb:entryFor table id=some b)
    (h:wpR (model prog w) A.in1 (checkBuiltinCall id args) (fun ξ s₁=>wpR (model prog w) A.in1 (b args) (A2V (model prog w) A R) s₁) s):Fx (model prog w) A (.call (.builtin id) args) R s:=by
  refine DT rfl ?_;show wpR _ A.in1 (callAny (.builtin id) args) _ s;unfold callAny;exact AA (Df h fun ξ s₁ h₁=>Bd ⟨plainId_quiet hp args,Ry ok hp hb h₁⟩)
theorem O3 {α:Type}{M:Model}{c:Bool}{a b:Sem α}{Q:α→Shared→Prop}(e:c=false)(h:wpR M A b Q s):wpR M A (if c=true then a else b) Q s:=by subst e;exact h
theorem Pc {M:Model}{v:Value}{Q:Bool→Shared→Prop}(h:Q false s):wpR M A (Bytes.exported v) Q s:=fun Γ p hΓ h1 h2=>by
  unfold Bytes.exported;show Q (((Γ.code,p)::Γ.below).any _) s;have key:∀ q∈(Γ.code,p)::Γ.below,okC q.1=true:=fun q hq=>by
    rcases List.mem_cons.mp hq with rfl | hq
    · exact h1
    · exact h2 q hq
  have e:∀ (f:Code×Pos→Bool),(∀ q,okC q.1=true→f q=false)→((Γ.code,p)::Γ.below).any f=false:=fun f hf=>by
    rw [List.any_eq_false];intro q hq;rw [hf q (key q hq)];decide
  rw [e _ ?_]
  · exact h
  · intro q hq
    obtain (⟨cd,ps⟩):=q;dsimp only at hq ⊢;cases cd with
    | builtin nm ar =>
      have hb:Nl.contains nm=false:=Bool.not_eq_true' _ |>.mp hq
      have ne:∀ x,Nl.contains x=true→nm≠x:=fun x hx e=>by rw [e,hx] at hb;cases hb
      have hd:Bytes.decodersThatHold.contains nm=false:=by
        unfold Nl at hb;rw [Bool.eq_false_iff] at hb ⊢;intro hc;exact hb (by rw [List.contains_iff_mem] at hc ⊢;exact List.mem_append.mpr (.inr hc))
      have n1:=ne "bytearray.__contains__" (by decide);have n2:=ne "bytearray.__mod__" (by decide);have n3:=ne "bytearray.__rmod__" (by decide);have n4:=ne "_struct.pack_into.held" (by decide);have n5:=ne "bytearray.find.held" (by decide);delta PySem.Builtin.Bytes.exported.match_1;refine Eq.trans (dif_neg n1) ?_;refine Eq.trans (dif_neg n2) ?_;refine Eq.trans (dif_neg n3) ?_;refine Eq.trans (dif_neg n4) ?_;refine Eq.trans (dif_neg n5) ?_;obtain (⟨l,kw⟩):=ar;cases l with
      | nil=>rfl
      | cons a l =>
        show (Bytes.sameRef a v && Bytes.decodersThatHold.contains nm)=false;rw [hd,Bool.and_false]
    | _=>rfl
theorem Hh:Slot "bytearray" "append" "bytearray.append" :=
  .of (owner:="bytearray") (n:="append") (by rw [typeLookup_type,builtinLookup_eq_fast];kernel_rfl) (by decide +kernel) (by decide +kernel) (by decide +kernel)
    (by first | exact .inl (by decide +kernel) | exact .inr (by decide +kernel)) (by rw [isSubtype_type];kernel_rfl)
theorem Oy:entryFor table "bytearray.append" = some Builtin.«bytearray.append» := by first | exact entryFor_of_fast (by kernel_rfl) | exact entryFor_of_tree (by kernel_rfl)
theorem Pr (a b:Value):argsOk "bytearray.append" ⟨[a,b],[]⟩:=by unfold argsOk;kernel_rfl
theorem QO:typeOf (.builtin "bytearray.append")=pure (.type "method_descriptor"):=by show builtinType _=_;rw [builtinType_eq_fast];kernel_rfl
theorem Zs {S:Addr}{b:Array UInt8}{i:Int}{t:Tok}{Q:Value→Shared→Prop}(hg:s.heap.get? S=some (CY b)) (h0:0≤i) (h1:i < 256)(hz:b.size < sizeLine)
    (k:∀ h',Heap.SameBut S s.heap h'→h'.get? S=some (CY (b.push i.toNat.toUInt8))→Q .none {s with heap:=h'}):wpR (model prog w) A (call (.builtin "bytearray.append") [.ref S,.int i t]) Q s:=by
  refine LS (H9 (by show (!Nl.contains "bytearray.append")=true;decide +kernel) Hh.plain Oy (Cf (Hh.check _ _ _ _ _ _ _ _ ⟨_,hg,rfl⟩ (Pr _ _) ?_)));unfold Builtin.«bytearray.append»;refine AA (R0 (a:=(.ref S,.int i t)) rfl ?_);dsimp only;refine AA ?_;unfold Bytes.byteValue;refine AA (R0 (a:=i) rfl ?_);refine O3 (by simp only [Bool.or_eq_false_iff,decide_eq_false_iff_not];omega) (Bd ?_);refine AA ?_;unfold Bytes.checkResize;refine AA ?_;refine AA (Pc ?_);refine AA ?_;unfold Bytes.exportsOf;refine AA (Cf (wpAny_load hg ?_));refine Bd (Bd ?_);refine O3 (by decide) (Bd ?_);refine AA (Cf ?_);show wpAny _ _ (updateBytearray S (·.push i.toNat.toUInt8)) _ _ _;unfold updateBytearray;refine wpAny_bind (wpAny_load hg ?_);show wpAny _ _ (update S (Obj.mapBytearray (·.push i.toNat.toUInt8)) >>= fun ξ=>lookBehind S) _ _ _;refine wpAny_bind (wpAny_update hg ?_);have g2:(s.heap.update S (Obj.mapBytearray (·.push i.toNat.toUInt8))).get? S=some (CY (b.push i.toNat.toUInt8)):=Heap.get?_update_self (Obj.mapBytearray (·.push i.toNat.toUInt8)) hg rfl;refine wpAny_lookBehind g2 ?_ ?_
  · show (if (b.push i.toNat.toUInt8).size > sizeLine then some "bytearray:memory" else none)=none
    rw [if_neg];rw [Array.size_push];omega
  · exact Bd (k _ (Heap.SameBut.update ..) g2)
theorem A05:mroOf (.type "bytearray")=pure [.type "bytearray",.type "object"]:=by rw [mroOf_type];kernel_rfl
theorem Rr:typeLookup (.type "bytearray") "__new__" = pure (some (.builtin "bytearray.__new__")):=by rw [typeLookup_type,builtinLookup_eq_fast];kernel_rfl
theorem A3B:Bind.madeBy (.type "bytearray")=pure (some "bytearray.__new__"):=madeBy_type A05 Rr (by decide +kernel)
theorem GL:Slot "bytearray" "__init__" "bytearray.__init__" :=
  .of (owner:="bytearray") (n:="__init__") (by rw [typeLookup_type,builtinLookup_eq_fast];kernel_rfl) (by decide +kernel) (by decide +kernel) (by decide +kernel)
    (by first | exact .inl (by decide +kernel) | exact .inr (by decide +kernel)) (by rw [isSubtype_type];kernel_rfl)
theorem Ts:isSubtype (.type "bytearray") (.type "bytearray")=pure true:=by rw [isSubtype_type];kernel_rfl
theorem Tr:entryFor table "bytearray.__new__" = some Builtin.«list.__new__» := by first | exact entryFor_alias (id':="list.__new__") (by kernel_rfl) rfl (by decide +kernel) (by kernel_rfl) | exact entryFor_of_tree (by kernel_rfl)
theorem Ro:entryFor table "bytearray.__init__" = some Builtin.«bytearray.__init__» := by first | exact entryFor_of_fast (by kernel_rfl) | exact entryFor_of_tree (by kernel_rfl)
theorem Vm:checkTypeCall "bytearray" ⟨[],[]⟩=pure ():=by kernel_rfl
theorem X9:checkBuiltinCall "bytearray.__new__" ⟨[.type "bytearray"],[]⟩=pure ():=by kernel_rfl
theorem Tq (a:Value):argsOk "bytearray.__init__" ⟨[a],[]⟩:=by unfold argsOk;kernel_rfl
theorem Mx:plainId "bytearray.__new__" = true:=by decide +kernel
theorem A3z:Bytes.bindOptional "bytearray.__init__" "bytearray" ["source","encoding","errors"] [] []=pure [none,none,none]:=by kernel_rfl
set_option maxHeartbeats 4000000 in
theorem A06:("bytearray.__new__".splitOn ".__new__").headD "" = "bytearray" := by rw [PySem.W.splitQ_eq];kernel_rfl
theorem A5V {Q₁:Value→Shared→Prop}{E:Value→Shared→Prop}(h:Q₁ (.ref s.heap.objs.size) {s with heap:=s.heap.push (CY #[])}):codeAny (model prog w) A (.call (.builtin "bytearray.__new__") ⟨[.type "bytearray"],[]⟩) (wants Q₁ E) s:=by
  refine codeAny_of_tree ?_;show wpAny _ A.in1 (do checkBuiltinCall "bytearray.__new__" ⟨[.type "bytearray"],[]⟩;again (.builtin "bytearray.__new__" ⟨[.type "bytearray"],[]⟩)) _ _ s;refine wpAny_bind (wpAny_of_eq X9 (wpAny_pure ⟨plainId_quiet Mx _,codeAny_builtin_stack Tr rfl fun p st=>?_⟩));rw [Around.under_plainId Mx _];have hsub:=Ts;have hown:=A06;obtain (⟨hp,g,d,tk,os⟩):=s;simp only [hown]
  wp_walk
  exact h
end
open Builtin
theorem Ou:typeLookup (.type "bytearray") "__release_buffer__" = pure (some (.builtin "bytearray.__release_buffer__")):=by rw [typeLookup_type,builtinLookup_eq_fast];kernel_rfl
theorem H5:typeLookup (.type "bytearray") "__buffer__" = pure (some (.builtin "bytearray.__buffer__")):=by rw [typeLookup_type,builtinLookup_eq_fast];kernel_rfl
theorem Rp:typeLookup (.type "bytearray") "__bytes__" = pure none:=by rw [typeLookup_type,builtinLookup_eq_fast];kernel_rfl
theorem Rq:typeLookup (.type "bytearray") "__index__" = pure none:=by rw [typeLookup_type,builtinLookup_eq_fast];kernel_rfl
theorem A2O (h:Heap)(o:Obj)(f:Obj→Obj):(h.push o).update h.objs.size f=h.push (f o):=by
  obtain (⟨objs,life⟩):=h;simp only [Heap.update,Heap.push,Heap.mk.injEq,and_true];apply Array.ext_getElem?;intro i;simp only [Array.getElem?_modify,Array.getElem?_push]
  by_cases h1:objs.size=i <;> by_cases h2:i=objs.size <;> simp_all
section
variable {prog:Program}{w:World}{A:Around}{s:Shared}{E:Value→Shared→Prop}
theorem PK {id:String}{args:Args}{b:Builtin}{R:Flow→Shared→Prop}(ok:okC (.builtin id args)=true)(hb:entryFor table id=some b)(h:wpR (model prog w) (A.under (.builtin id args)) (b args) (A2V (model prog w) A R) s):Fx (model prog w) A (.builtin id args) R s:=by
  refine DT ok ?_;show wpR _ _ (match entryFor table id with | some b=>b args | none=>unsupported ((withoutEnding? id "#data").getD id)) _ s;rw [hb];exact h
theorem Wb {v:Value}{T name id:String}{Q:Bool→Shared→Prop}{M:Model}(hT:s.TypeIs v T)(hl:typeLookup (.type T) name=pure (some (.builtin id)))(he:id.endsWith ("." ++ name)=true)(hd:id.dropRight (name.length+1)=T)
    (hs:isSubtype (.type T) (.type T)=pure true)(h:Q true s):wpAny M A (Bytes.slotIsOwn v name) Q E s:=by
  unfold Bytes.slotIsOwn;refine wpAny_bind (wpAny_specialOf hT hl ?_);dsimp only;rw [he,hd];refine bm_if_false rfl ?_;exact wpAny_isInstance hT hs h
theorem YW {v:Value}{Q:Bool→Shared→Prop}{M:Model}(hT:s.TypeIs v "bytearray")(h:Q false s):wpAny M A (Bytes.ownRelease v) Q E s:=by
  unfold Bytes.ownRelease;exact wpAny_bind (Wb hT Ou (by decide +kernel) (by decide +kernel) Ts (wpAny_pure h))
theorem A3A {Q:Value→Shared→Prop}(h:Q (.ref s.heap.objs.size) {s with heap:=s.heap.push (CY #[])}):wpR (model prog w) A (call (.type "bytearray") []) Q s:=by
  refine LS (DT rfl ?_);show wpR _ _ (callAny (.type "bytearray") _) _ _;refine Bd ⟨Code.quiet_builtin _ (by decide +kernel),PK (by decide +kernel) F.entry_type_call ?_⟩;rw [Around.under_plain (weight_type_call_type "bytearray" [] []) rfl];unfold Builtin.«type.__call__»;refine O3 (by decide) ?_;refine O3 (by decide +kernel) ?_;refine AA (R0 Vm ?_);refine AA (R0 A05 ?_);refine O3 rfl ?_;refine AA (R0 A3B ?_);dsimp only;refine AA (R0 (a:=Value.builtin "bytearray.__new__") rfl ?_);refine AA (Cu (LS (Zu (codeAny_mono (A5V (Q₁:=fun v s'=>v=.ref s.heap.objs.size∧s'={s with heap:=s.heap.push (CY #[])}) (E:=fun ξ ξ=>False) ⟨rfl,rfl⟩) fun r s' hr=>?_))));cases r with
  | error e=>exact hr
  | ok f =>
    cases f with
    | ret v =>
      obtain ⟨rfl,rfl⟩:=hr;have hg:(s.heap.push (CY #[])).get? s.heap.objs.size=some (CY #[]):=Heap.get?_push_size _ rfl;have hT:({s with heap:=s.heap.push (CY #[])}:Shared).TypeIs (.ref s.heap.objs.size) "bytearray" := ⟨_,hg,rfl⟩;dsimp only;refine AA (Cf (wpAny_isInstance hT Ts ?_));refine O3 rfl ?_;refine AA (Cu ?_);unfold callSpecial?;refine AA (Cf (wpAny_specialOf hT GL.lookup ?_));dsimp only;refine Cu (AA (R0 (GL.bind _) ?_));dsimp only;refine AA (LS (H9 (by show (!Nl.contains "bytearray.__init__")=true;decide +kernel) GL.plain Ro (Cf (GL.check _ _ _ _ _ _ _ _ hT (Tq _) ?_))));unfold Builtin.«bytearray.__init__»;refine AA (Cf (YW hT ?_));refine O3 rfl ?_;refine AA (R0 A3z ?_);dsimp only;refine AA (R0 (a:=()) rfl ?_);refine AA (R0 (a:=()) rfl ?_);refine AA ?_;refine AA (Pc ?_);refine AA ?_;unfold Bytes.exportsOf;refine AA (Cf (wpAny_load hg ?_));refine Bd (Bd ?_);refine O3 (by decide) ?_;refine AA (Cf ?_);show wpAny _ _ (updateBytearray s.heap.objs.size (fun ξ=>#[])) _ _ _;unfold updateBytearray;refine wpAny_bind (wpAny_load hg ?_);show wpAny _ _ (update s.heap.objs.size (Obj.mapBytearray (fun ξ=>#[])) >>= fun ξ=>lookBehind s.heap.objs.size) _ _ _;refine wpAny_bind (wpAny_update hg ?_);dsimp only;rw [A2O];refine wpAny_lookBehind hg (by decide +kernel) ?_;refine Bd ?_
      skip
      refine Bd ?_;dsimp only;refine Bd ?_
      skip
      exact h
    | _=>exact hr.elim
end
section
variable {prog:Program}{w:World}{A:Around}{s:Shared}{E:Value→Shared→Prop}
theorem Zt {x:Addr}{b:Array UInt8}{Q:Value→Shared→Prop}(hg:s.heap.get? x=some (CY b))(hz:b.size≤sizeLine)
    (hQ:∀ t k,Q (.bytes b t) {s with toks:=k}):codeAny (model prog w) A (.call (.builtin "bytes.__new__") ⟨[.type "bytes",.ref x],[]⟩) (wants Q E) s:=by
  refine codeAny_of_tree ?_;show wpAny _ A.in1 (do checkBuiltinCall "bytes.__new__" ⟨[.type "bytes",.ref x],[]⟩;again (.builtin "bytes.__new__" ⟨[.type "bytes",.ref x],[]⟩)) _ _ s;refine wpAny_bind (wpAny_of_eq (PySem.F.bm_newCall _) (wpAny_pure ⟨plainId_quiet PySem.F.bm_plain _,codeAny_builtin PySem.F.bm_entry ?_⟩));rw [Around.under_plainId PySem.F.bm_plain _];have hT:s.TypeIs (.ref x) "bytearray" := ⟨_,hg,rfl⟩;unfold Builtin.«bytes.__new__»;refine wpAny_bind (wpAny_of_eq (a:=true) rfl ?_);refine bm_if_false rfl ?_;refine wpAny_bind (wpAny_of_eq PySem.F.bm_sub ?_);refine bm_if_false rfl ?_;refine wpAny_bind (wpAny_of_eq (PySem.F.bm_bind _) ?_);refine wpAny_bind (wpAny_of_eq (a:=()) rfl ?_);refine wpAny_bind (wpAny_of_eq (a:=()) rfl ?_);refine bm_if_false rfl ?_;refine wpAny_bind (wpAny_specialOf hT Rp ?_);refine wpAny_bind (wpAny_bind ?_);show wpAny _ _ (load x >>= _) _ _ _;refine wpAny_bind (wpAny_load hg ?_);refine wpAny_pure (wpAny_pure ?_);refine bm_if_false rfl ?_;refine wpAny_bind (wpAny_specialOf hT Rq ?_);refine bm_if_true rfl ?_
  first
    | show wpAny _ _ (Builtin.Bytes.buffer? "bytes.__new__" (.ref x) true >>= _) _ _ _
    | (refine wpAny_bind ?_;show wpAny _ _ (Builtin.Bytes.buffer? "bytes.__new__" (.ref x) true >>= _) _ _ _)
  refine wpAny_bind ?_;unfold Builtin.Bytes.buffer?;refine wpAny_bind (wpAny_specialOf hT H5 ?_);refine wpAny_bind ?_;refine Wb hT H5 (by decide +kernel) (by decide +kernel) Ts ?_;refine bm_if_false rfl ?_;refine wpAny_bind (wpAny_specialOf hT H5 ?_);dsimp only;refine wpAny_bind (YW hT ?_);refine bm_if_false rfl ?_;refine wpAny_bind ?_;unfold Builtin.Bytes.payload Builtin.Bytes.payload?;refine wpAny_bind (wpAny_bind (wpAny_load hg ?_));refine wpAny_pure (wpAny_pure (wpAny_pure ?_));dsimp only;refine wpAny_bind (wpAny_rule ?_);refine wpAny_bind (wpAny_mkBytes ?_ hz)
  first
    | exact wpAny_pure (hQ _ _)
    | exact wpAny_bind (wpAny_pure (wpAny_pure (hQ _ _)))
    | exact wpAny_pure (wpAny_pure (hQ _ _))
theorem Rx {x:Addr}{b:Array UInt8}{Q:Value→Shared→Prop}(hg:s.heap.get? x=some (CY b))(hz:b.size≤sizeLine)
    (hQ:∀ t k,Q (.bytes b t) {s with toks:=k}):wpAny (model prog w) A (call (.type "bytes") [.ref x]) Q E s:=by
  refine callType_codes (Q₁:=fun obj s₁=>s₁.TypeIs obj "bytes" ∧ Q obj s₁) PySem.F.bm_called (PySem.F.bm_typeCall _) PySem.F.entry_object_init
    (Zt hg hz fun t k=>⟨PySem.W.typeIs_bytes _ _ _,hQ t k⟩) fun obj s₁ h₁=>?_
  exact ⟨h₁.1,PySem.F.args_object_init_2 obj _,object_init_meets PySem.F.bm_called.init.lookup PySem.F.bm_called.made (by decide) prog w A.in1 _ s₁ ⟨h₁.1,rfl,h₁.2⟩⟩
end
section
variable {G:Gl}{lv:Nat}{A:Around}{h₀:Heap}{L:Addr}{m:Str→Option Value}{fx:Led}{σ:Sto}{c:Cs}{s:Shared}
theorem ba_at (P:Pv G lv A h₀ L m fx σ c s){n:Nat}{b:Array UInt8}(e:σ[n]? = some (.ba b)) :
    ∃ a pre post,c.ad[n]? = some a∧c.ml=pre++((a,CY b)::post)∧s.heap.get? a=some (CY b) ∧
      ∀ b',SOs (Rc G.hT c) (σ.set n (.ba b')) c.ad (pre++((a,CY b')::post)):=by
  obtain ⟨a,pre,mid,post,h1,h2,rfl,h4⟩:=P.rep.so.at_ e;refine ⟨a,pre,post,h1,h2,(P.rep.nw (a,_) ?_).1,fun b'=>h4 (.ba b') [(a,CY b')] rfl⟩;rw [h2];simp
theorem Pz (P:Pv G lv A h₀ L m fx σ c s){n:Nat}{b:Array UInt8}(e:σ[n]? = some (.ba b)) :
    ∃ a,c.ad[n]? = some a∧s.heap.get? a=some (CY b) ∧
      ∀ h' b',Heap.SameBut a s.heap h'→h'.get? a=some (CY b')→∃ c',Rep G.hT h₀ L h' m (σ.set n (.ba b')) c' fx∧c.le c':=by
  obtain ⟨a,pre,post,h1,h2,h3,h4⟩:=ba_at P e;have nd:=P.rep.nd;have e1:c.ml++(c.pl++fx)=pre++(a,CY b)::(post++(c.pl++fx)):=by rw [h2];simp
  have N:=P.N;rw [e1] at nd N;have z:=NJ (pre:=pre) (mid:=[(a,CY b)]) (post:=post++(c.pl++fx)) (fx:=[]) (by simpa using nd);refine ⟨a,h1,h3,fun h' b' hs hb=>?_⟩;have hm:(a,CY b)∈pre++(a,CY b)::(post++(c.pl++fx)):=by simp
  have N':=news_set N (fun p hp=>z.1 _ (.head _) p hp) (fun p hp=>z.2 _ (.head _) p (by simpa using hp)) hs hb;refine ⟨{c with ml:=pre++(a,CY b')::post},⟨P.F.update N hm hs,?_,?_,h4 b'⟩,⟨⟨[],by simp⟩,fun p hp=>hp⟩⟩
  · refine Cn N' fun p hp=>?_
    simpa using hp
  · simpa using nd
noncomputable def cBa:CS:=fun args σ Q=>args=[]∧Q (.loc σ.length) (σ ++ [.ba #[]])
noncomputable def Yg:XC:=fun args σ=>a2 args fun a b=>(asBa σ a).bind fun p=>(asI b).bind fun i=>if p.2.size < sizeLine∧0≤i∧i < 256 then some (.d .none,σ.set p.1 (.ba (p.2.push i.toNat.toUInt8))) else none
noncomputable def Yh:XC:=fun args σ=>a1 args fun a=>(asBa σ a).bind fun p=>if p.2.size≤sizeLine then some (.d (.bytes p.2),σ) else none
noncomputable def Tz:CS:=cY Yg
noncomputable def Xa:CS:=cY Yh
theorem V_ba:RV G lv (.type "bytearray") cBa:=by
  rintro A h₀ L m fx σ c s args vals Q Qc P ra ⟨rfl,q⟩ k;cases ra;refine A3A ?_;have lt:=P.rep.lt;have r:=P.rep.addM (o:=.ba #[]) (a:=s.heap.objs.size) (mid:=[(s.heap.objs.size,CY #[])]) (h':=s.heap.push (CY #[])) (P.F.push _) (News.push P.F P.N (CY #[]) rfl:News h₀ L (s.heap.push (CY #[])) ((s.heap.objs.size,CY #[])::(c.ml++(c.pl++fx)))) (fun q hq p hp=>by rw [List.mem_singleton.mp hq];exact lt p hp) (by simp) rfl;exact k _ _ _ _ s.toks _ q r GK (HK P.rep.so.length)
theorem A3q:RV G lv (.builtin "bytearray.append") Tz:=by
  rintro A h₀ L m fx σ c s args vals Q Qc P ra ⟨r,e,q⟩ k;obtain ⟨a,d,rfl,f1⟩:=Pe e;obtain ⟨p,e1,f2⟩:=Az f1;obtain ⟨i,e2,f3⟩:=Az f2;obtain ⟨rfl,e3⟩:=Yz e1;obtain rfl:=Mq e2;obtain ⟨⟨hz,h0,h1⟩,rfl⟩:=Bq f3;obtain ⟨v,u,rfl,rv,ru⟩:=two ra;obtain ⟨x,hx,hg,hk⟩:=Pz P e3;obtain ⟨y,hy,rfl⟩:=rv;obtain rfl:x=y:=by rw [hx] at hy;exact Option.some.inj hy
  obtain ⟨t,rfl⟩:=DY ru;refine Zs hg h0 h1 hz fun h' hs hb=>?_;obtain ⟨c',r',l'⟩:=hk h' _ hs hb;exact k _ _ _ h' s.toks c' q r' l' .none
theorem A3r:Ao G lv (.type "bytes") Xa:=by
  rintro A h₀ L m fx σ c s args vals Q Qc E P ra ⟨r,e,q⟩ k;obtain ⟨a,rfl,f1⟩:=JJ e;obtain ⟨p,e1,f2⟩:=Az f1;obtain ⟨rfl,e3⟩:=Yz e1;obtain ⟨hz,rfl⟩:=Bq f2;obtain ⟨v,rfl,rv⟩:=one ra;obtain ⟨x,hx,hg,hk⟩:=Pz P e3;obtain ⟨y,hy,rfl⟩:=rv;obtain rfl:x=y:=by rw [hx] at hy;exact Option.some.inj hy
  exact Rx hg hz fun t tk=>k _ _ _ s.heap tk c q P.rep (.refl c) (.bytes _ _)
noncomputable def mtB (t:CS):MT:=fun a σ=>match a with
  | .loc n=>(match σ[n]? with
    | some (.ba _)=>some t
    | _=>none)
  | _=>none
theorem Rs:PlainAttrs "bytearray" := ⟨⟨"bytearray.__getattribute__",by rw [typeLookup_type,builtinLookup_eq_fast];kernel_rfl,by decide +kernel⟩,by rw [typeLookup_type,builtinLookup_eq_fast];kernel_rfl⟩
set_option tactic.hygienic true in
theorem A3C:Sk G lv "append" (mtB Tz):=by
  intro A h₀ L m fx σ c s a va t' P ra e;unfold mtB at e;split at e
  · split at e
    · rename_i b eb
      cases e;obtain ⟨x,hx,hg,hk⟩:=Pz P eb;obtain ⟨y,hy,rfl⟩:=ra;obtain rfl:x=y:=by rw [hx] at hy;exact Option.some.inj hy
      refine ⟨.builtin "bytearray.append",rfl,?_,fun pl Q E q=>getMethod_builtin ⟨_,hg,rfl⟩ Rs Hh QO (fun b e=>by cases e;exact ⟨_,hg,rfl⟩) q⟩;exact A3q
    · cases e
  · cases e
end
open Builtin Builtin.Str
open PySem.MeetsSeq AutoSeq1 in
theorem OB (l:Addr)(items:Array Value)(n:Nat)(x:Value)(e:Value→Bool)(he:∀ y,y∈items→EqGives y x (e y))(st:Nat)(t:Tok)(j:Nat)(hj:j < items.size)(hsmall:(j:Int) < 2 ^ 63 - 1)(hst:st≤j)
    (hit:e items[j]=true)(hno:∀ m (hm:m < items.size),st≤m→m < j→e items[m]=false) :
    Meets (Builtin.«list.index» ⟨[.ref l,x,.int st t],[]⟩)
      (fun ξ R s=>s.heap.get? l=some {cls:=.type "list",dict:=none,data:=.seq items n,slots:=#[]}∧R (.ok (.ret (.int j s.toks))) {s with toks:=s.toks+1}):=by
  intro prog w A R s h;obtain (⟨hp,g,d,tk,os⟩):=s;obtain ⟨hl,h⟩:=h
  wp_walk using wpAny_loadPart' hl
  have a1:((fun i:Int=>if i < 0 then max 0 (i+(items.size:Int)) else i) ((some (st:Int)).getD 0))=((st:Nat):Int):=by
    show (if (st:Int) < 0 then max 0 ((st:Int)+(items.size:Int)) else (st:Int))=_;rw [if_neg (by omega)]
  have a2:((fun i:Int=>if i < 0 then max 0 (i+(items.size:Int)) else i) ((none:Option Int).getD (2 ^ 63 - 1)))=2 ^ 63 - 1:=by simp
  rw [a1,a2];exact ⟨plainId_quiet plain_index_loop _,codeAny_builtin entry_index_loop (by
    rw [Around.under_plainId plain_index_loop _];exact index_loop l items n x e he (2 ^ 63 - 1) j hj hsmall hit _ st rfl hst (fun m hm h1 h2=>hno m hm h1 h2) prog w A R _ ⟨hl,h⟩)⟩
noncomputable def A1K (x:Str)(xs:List Str)(st j:Nat):Prop:=xs.length≤sizeLine∧st≤j∧xs[j]? = some x∧∀ m,st≤m→m < j→xs[m]?≠some x
noncomputable def FM (x:Str):List Str→Nat→Nat→Option Nat
  | [],_,_=>none
  | y::r,at_,st=>if st≤at_∧y=x then some at_ else FM x r (at_+1) st
noncomputable def Yk (x:Str)(st:Int)(xs:List Str)(σ:Sto):Option (AV×Sto):=if 0≤st∧xs.length≤sizeLine then (FM x xs 0 st.toNat).bind fun j=>some (.d (.int j),σ) else none
noncomputable def UV (a b:AV)(st:Int)(σ:Sto):Option (AV×Sto):=(asS b).bind fun x=>((AU σ a).bind Ga).bind fun xs=>Yk x st xs σ
noncomputable def KD:XC:=fun args σ=>o1 (a2 args fun a b=>some (a,b)) (fun p=>UV p.1 p.2 0 σ) (a3 args fun a b d=>(asI d).bind fun st=>UV a b st σ)
noncomputable def TB:CS:=cY KD
set_option tactic.hygienic true in
theorem MJ (x:Str):∀ (xs:List Str) (at_ st j:Nat),FM x xs at_ st=some j→at_≤j∧st≤j∧xs[j - at_]? = some x∧∀ m,st≤m→at_≤m→m < j→xs[m - at_]?≠some x
  | [],_,_,_,e=>by cases e
  | y::r,at_,st,j,e=>by
    unfold FM at e;split at e
    · rename_i h;cases e
      refine ⟨Nat.le_refl _,h.1,?_,fun m h1 h2 h3=>by omega⟩;rw [Nat.sub_self,h.2];rfl
    · rename_i h
      obtain ⟨h1,h2,h3,h4⟩:=MJ x r (at_+1) st j e;refine ⟨by omega,h2,?_,fun m k1 k2 k3=>?_⟩
      · have:j - at_=(j - (at_+1))+1:=by omega
        rw [this,List.getElem?_cons_succ];exact h3
      · by_cases hm:m=at_
        · subst hm
          rw [Nat.sub_self];intro k;simp only [List.getElem?_cons_zero,Option.some.injEq] at k;exact h ⟨k1,k⟩
        · have:m - at_=(m - (at_+1))+1:=by omega
          rw [this,List.getElem?_cons_succ];exact h4 m k1 (by omega) k3
set_option tactic.hygienic true in
theorem A0D {x:Str}{st:Int}{xs:List Str}{σ σ':Sto}{a:AV}(e:Yk x st xs σ = some (a,σ')):0≤st∧σ'=σ∧∃ j:Nat,A1K x xs st.toNat j∧a=.d (.int j):=by
  unfold Yk at e;split at e
  · rename_i h
    obtain ⟨j,e1,e⟩:=Az e;cases e;obtain ⟨h1,h2,h3,h4⟩:=MJ x xs 0 _ _ e1;exact ⟨h.1,rfl,j,⟨h.2,h2,h3,fun m k1 k2=>h4 m k1 (Nat.zero_le _) k2⟩,rfl⟩
  · cases e
section
variable {G:Gl}{lv:Nat}
theorem QJ {hT:Heap}{c:Cs}{l:List AV}{vs:List Value}{xs:List Str}{x:Str}{u:Tok}{st j:Nat}(h:B1 (Rc hT c) l vs)(e:Ga l=some xs)(hi:A1K x xs st j) :
    ∃ hj:j < vs.toArray.size,(∀ y,y∈vs.toArray→MeetsSeq.EqGives y (.str x u) (isStrOf x y))∧isStrOf x vs.toArray[j]=true∧(∀ m (hm:m < vs.toArray.size),st≤m→m < j→isStrOf x vs.toArray[m]=false)∧(j:Int) < 2 ^ 63 - 1:=by
  obtain rfl:=Wx e;obtain ⟨hz,h1,h2,h3⟩:=hi;rw [sizeLine_eq] at hz;have at_:∀ m (hm:m < vs.length) y,xs[m]? = some y→∃ t,vs[m]=.str y t:=fun m hm y hy=>by
    obtain ⟨v,hv,rv⟩:=h.get (i:=m) (a:=.d (.str y)) (by rw [List.getElem?_map,hy];rfl);obtain ⟨t,rfl⟩:=DZ rv;exact ⟨t,by rw [List.getElem?_eq_getElem hm] at hv;exact Option.some.inj hv⟩
  have hl:xs.length=vs.length:=by have:=h.length;simpa using this
  have hj:j < vs.length:=by
    rw [← hl];rcases Nat.lt_or_ge j xs.length with hc | hc
    · exact hc
    · rw [List.getElem?_eq_none hc] at h2;cases h2
  refine ⟨by simpa using hj,?_,?_,?_,by omega⟩
  · intro y hy
    obtain ⟨m,hm,rfl⟩:=List.getElem_of_mem (by simpa using hy:y∈vs);obtain ⟨t,e⟩:=at_ m hm _ (List.getElem?_eq_getElem (by omega));rw [e];exact eqGives_str _ _ _ _
  · obtain ⟨t,e⟩:=at_ j hj _ h2
    rw [List.getElem_toArray,e];exact beq_self_eq_true x
  · intro m hm h4 h5
    have hm':m < vs.length:=by simpa using hm
    obtain ⟨t,e⟩:=at_ m hm' _ (List.getElem?_eq_getElem (by omega));rw [List.getElem_toArray,e];have:=h3 m h4 h5;rw [List.getElem?_eq_getElem (by omega)] at this;exact beq_eq_false_iff_ne.mpr fun x=>this (congrArg some x)
theorem QV {a b:AV}{st:Int}{σ:Sto}{r:AV×Sto}(e:UV a b st σ = some r):∃ x l xs j,b=.d (.str x)∧AU σ a=some l∧Ga l=some xs∧0≤st∧A1K x xs st.toNat j∧r=(.d (.int (j:Int)),σ):=by
  obtain ⟨x,e1,f1⟩:=Az e;obtain ⟨xs,e2,f2⟩:=Az f1;obtain ⟨l,e3,e4⟩:=Az e2;obtain (⟨r1,r2⟩):=r;obtain ⟨h1,rfl,j,h2,rfl⟩:=A0D f2;exact ⟨x,l,xs,j,Mr e1,e3,e4,h1,h2,rfl⟩
theorem Yv:Ao G lv (.builtin "list.index") TB:=by
  rintro A h₀ L m fx σ c s args vals Q Qc E P ra ⟨r,e,q⟩ k;rcases IT e with ⟨p,e1,f1⟩ | f1
  · obtain ⟨a,b,rfl,e2⟩:=Pe e1
    obtain rfl:=Option.some.inj e2;obtain ⟨x,l,xs,j,rfl,e3,e4,h0,hi,rfl⟩:=QV f1;obtain ⟨v,u,rfl,rv,ru⟩:=two ra;obtain ⟨a,vs,n,rfl,g,r⟩:=Bo P rv e3;obtain ⟨t,rfl⟩:=DZ ru;obtain ⟨hj,y1,y2,y3,y4⟩:=QJ (u:=t) r e4 hi;refine call_meets PySem.F.slot_list_index ⟨_,g,rfl⟩ PySem.F.entry_list_index (PySem.F.args_list_index_2 _ _) (MeetsSeq.list_index a vs.toArray n _ _ y1 j hj y4 y2 fun m hm h2=>y3 m hm (Nat.zero_le _) h2) ⟨g,?_⟩;exact k _ _ _ s.heap _ c q P.rep (.refl c) (.int _ _)
  · obtain ⟨a,b,d,rfl,f2⟩:=A4H f1
    obtain ⟨st,e2,f3⟩:=Az f2;obtain rfl:=Mq e2;obtain ⟨x,l,xs,j,rfl,e3,e4,h0,hi,rfl⟩:=QV f3;obtain ⟨v,u,w,rfl,rv,ru,rw'⟩:=A44 ra;obtain ⟨a,vs,n,rfl,g,r⟩:=Bo P rv e3;obtain ⟨t,rfl⟩:=DZ ru;obtain ⟨tt,rfl⟩:=DY rw';obtain ⟨hj,y1,y2,y3,y4⟩:=QJ (u:=t) r e4 hi;obtain ⟨st,rfl⟩:=Int.eq_ofNat_of_zero_le h0;refine call_meets PySem.F.slot_list_index ⟨_,g,rfl⟩ PySem.F.entry_list_index (PySem.F.args_list_index_3 _ _ _) (OB a vs.toArray n _ _ y1 st tt j hj y4 hi.2.1 y2 y3) ⟨g,?_⟩;exact k _ _ _ s.heap _ c q P.rep (.refl c) (.int _ _)
end
open Builtin Builtin.Str
noncomputable def Ei {α:Type}(G:Gl)(lv:Nat)(env:Env)(vars:List Str)(tree:Sem α)(β:Type)(R:Heap→Cs→β→α→Prop)(t:Lo→Sto→(β→Sto→Prop)→Prop):Prop:=
  ∀ (A:Around) (h₀:Heap) (L:Addr) (m:Str→Option Value) (fx:Led) (ρ:Lo) (σ:Sto) (c:Cs) (s:Shared) (Q:β→Sto→Prop) (Qc:α→Shared→Prop) (E:Value→Shared→Prop),
    1≤s.toks→Pl G lv env vars A h₀ L m fx ρ σ c s→t ρ σ Q→Kn G h₀ L m fx c s R Q Qc→wpAny (model G.prog G.w) A tree Qc E s
noncomputable def EI {α:Type}(G:Gl)(lv:Nat)(env:Env)(vars:List Str)(tree:Sem α)(R:Heap→Cs→Fl→α→Prop)(t:TS):Prop:=
  ∀ (A:Around) (h₀:Heap) (L:Addr) (m:Str→Option Value) (cl fx:Led) (ρ:Lo) (σ:Sto) (c:Cs) (s:Shared) (Q:Fl→Lo→Sto→Prop) (Qc:α→Shared→Prop) (E:Value→Shared→Prop),
    1≤s.toks→PlS G lv env vars A h₀ L m cl fx ρ σ c s→t ρ σ Q→KS G lv env vars A h₀ L fx c s R Q Qc→wpAny (model G.prog G.w) A tree Qc E s
noncomputable def OR (G:Gl)(lv:Nat)(env:Env)(vars:List Str)(tg:Expr→Prop)(e:Expr)(t:TI):Prop:=
  ∀ (A:Around) (h₀:Heap) (L:Addr) (m:Str→Option Value) (fx:Led) (ρ:Lo) (σ:Sto) (c:Cs) (s:Shared) (Q:DK→Sto→Prop) (Qc:Value→Shared→Prop) (E:Value→Shared→Prop),
    1≤s.toks→Pl G lv env vars A h₀ L m fx ρ σ c s→t ρ σ Q →
    (∀ item σ' I S il h' tk c',Q item σ'→Rep G.hT h₀ L h' m σ' c' (il++fx)→c.le c'→T9 G tg I S item→S 0 il c'→Qc (.ref I) {s with heap:=h',toks:=tk}) →
    wpAny (model G.prog G.w) A (eval e env) (fun x s₁=>wpAny (model G.prog G.w) A (pyIter x) Qc E s₁) E s
section
variable {G:Gl}{lv:Nat}{env:Env}{vars:List Str}
theorem FZ.one {α:Type}{tree:Sem α}{β:Type}{R:Heap→Cs→β→α→Prop}{t:Lo→Sto→(β→Sto→Prop)→Prop}(h:FZ G lv env vars tree β R t):Ei G lv env vars tree β R t:=
  fun A h₀ L m fx ρ σ c s Q Qc E ξ P q k=>h A h₀ L m fx ρ σ c s Q Qc E P q k
set_option tactic.hygienic true in
theorem A0P {st:Stmt}{b:List Stmt}{x y:TS}(h:Ca G lv env vars st x)(k:EI G lv env vars (execs b env) FlR y):EI G lv env vars (execs (st::b) env) FlR (As x y):=by
  intro A h₀ L m cl fx ρ σ c s Q Qc E ht P q kk;refine wpAny_execs_cons (wpAny_with_toks ht (h A h₀ L m cl fx ρ σ c s _ _ (fun e s'=>1≤s'.toks→E e s') P q fun fl ρ' σ' m' cl' c' h' tk f q' P' l r ht'=>?_));cases r with
  | next=>exact k A h₀ L m' cl' fx ρ' σ' c' _ Q Qc E ht' P' q' (KS.after kk l)
  | brk=>exact kk _ _ _ _ _ _ _ _ _ q' P' l .brk
  | cont=>exact kk _ _ _ _ _ _ _ _ _ q' P' l .cont
  | ret r=>exact kk _ _ _ _ _ _ _ _ _ q' P' l (.ret r)
set_option tactic.hygienic true in
theorem Zg {st:Stmt}{b:List Stmt}{x y:TS}(h:EI G lv env vars (exec st env) FlR x)(k:BE G lv env vars b y):EI G lv env vars (execs (st::b) env) FlR (As x y):=by
  intro A h₀ L m cl fx ρ σ c s Q Qc E ht P q kk;refine wpAny_execs_cons (h A h₀ L m cl fx ρ σ c s _ _ E ht P q fun fl ρ' σ' m' cl' c' h' tk f q' P' l r=>?_);cases r with
  | next=>exact k A h₀ L m' cl' fx ρ' σ' c' _ Q Qc E P' q' (KS.after kk l)
  | brk=>exact kk _ _ _ _ _ _ _ _ _ q' P' l .brk
  | cont=>exact kk _ _ _ _ _ _ _ _ _ q' P' l .cont
  | ret r=>exact kk _ _ _ _ _ _ _ _ _ q' P' l (.ret r)
set_option tactic.hygienic true in
theorem A3n {l:Expr}{op:CmpOp}{x:Str}{kk:Nat}{body b:List Stmt}{pos pos₁ pos₂:Pos}{ta:TE}{tx ty:TS}(hl:Au G lv env vars l ta)(hx:BE G lv env vars body tx)(hy:EI G lv env vars (execs b env) FlR ty)
    (hm:behindInMarks op (.Constant (.str x) kk pos₁)=false) :
    BE G lv env vars (.If (.Compare l [op] [.Constant (.str x) kk pos₁] pos₂) body [] pos::b) (As (Bb (tTr (Aq (B7 op) ta (tD (.str x)))) tx At) ty):=by
  intro A h₀ L m cl fx ρ σ c s Q Qc E P q k;refine wpAny_execs_cons (wpAny_If ?_);rw [isTrue_Compare1,markedBehindIn_of_false hm];refine wpAny_bind (hl A h₀ L m _ ρ σ c s _ _ E P.pl q fun a σ₁ va h₁ tk₁ c₁ q₁ r₁ l₁ x₁=>?_);refine wpAny_bind (wpAny_holding (wpAny_Constant_str ?_));unfold tD at q₁;refine wpAny_bind (wpAny_standAt (wpAny_bind ?_));refine wpAny_with_toks (n:=1) (Nat.succ_le_succ (Nat.zero_le _)) ?_;have P₁:=P.next (tk:=tk₁ + 1) r₁ l₁;refine wpAny_operating (Si op A h₀ L m _ σ₁ c₁ _ a (.d (.str x)) va _ _ _ _ P₁.pl.pv x₁ (.str _ _) q₁ fun v σ₃ vv h₃ tk₃ c₃ q₃ r₃ l₃ x₃ ht=>?_)
  try dsimp only at q₃
  split at q₃
  · rename_i bb
    obtain rfl:=Ff x₃;refine wpAny_holding (wpAny_truthy_bool ?_);cases bb with
    | true =>
      refine wpAny_with_toks ht (hx A h₀ L m cl fx ρ σ₃ c₃ _ _ _ (fun e s'=>1≤s'.toks→E e s') (P.next r₃ (l₁.trans l₃)) q₃ fun fl ρ' σ' m' cl' c' h' tk f q' P' l r ht'=>?_);have lall:=(l₁.trans l₃).trans l;cases r with
      | next=>exact hy A h₀ L m' cl' fx ρ' σ' c' _ Q Qc E ht' P' q' (KS.after k lall)
      | brk=>exact k _ _ _ _ _ _ _ _ _ q' P' lall .brk
      | cont=>exact k _ _ _ _ _ _ _ _ _ q' P' lall .cont
      | ret r=>exact k _ _ _ _ _ _ _ _ _ q' P' lall (.ret r)
    | false=>exact wpAny_execs_nil (hy A h₀ L m cl fx ρ σ₃ c₃ _ Q Qc E ht (P.next r₃ (l₁.trans l₃)) q₃ (KS.after k (l₁.trans l₃)))
  · exact q₃.elim
set_option tactic.hygienic true in
theorem S_Mt1 {o:Expr}{name:Str}{apos pos:Pos}{args:List Expr}{mt:MT}{to:TE}{ts:TEs}{pl:Sem Bool}(ho:Ei G lv env vars (eval o env) AV Rc to)(hs:Bw G lv env vars args ts)(hm:Ng G lv name mt)
    (he:eval (.Call (.Attribute o name apos) args [] pos) env=(do
      let ov ← eval o env
      standAt apos.atName
      let (f,first) ← holding [ov] (getMethod ov name pl)
      callWith pos f first (backTo pos (starEach args env)) (backToKw pos (keywordEach [] env))):=by rfl) (hp:(backTo pos (starEach args env)).any (·.1)=false:=by rfl) :
    Ei G lv env vars (eval (.Call (.Attribute o name apos) args [] pos) env) AV Rc (tMt mt to ts):=by
  intro A h₀ L m fx ρ σ c s Q Qc E ht P q k;refine methodCall_KW (pl:=pl) (ho A h₀ L m fx ρ σ c s _ _ E ht P q fun a σ₁ va h₁ tk₁ c₁ q₁ r₁ l₁ x₁=>?_) he;have P₁:=P.next (tk:=tk₁) r₁ l₁;split at q₁
  · rename_i t e
    obtain ⟨f,f1,f2,f3⟩:=hm A h₀ L m fx σ₁ c₁ _ a va t P₁.pv x₁ e;exact f3 _ _ _ (LZ f2 f1 hs hp P₁ (first:=[a]) (.cons x₁ .nil) q₁ (Kn.after k l₁))
  · exact q₁.elim
noncomputable def SZ (y z:Str)(to:TE):TE:=fun ρ σ Q=>to ρ σ fun a σ'=>match a with
  | .d (.str x)=>x.length+(x.length+1) * z.length≤16777216∧Q (.d (.str (Txt.replace x y z))) σ'
  | _=>False
set_option tactic.hygienic true in
theorem A3p {o:Expr}{y z:Str} {apos pos p1 p2:Pos} {k1 k2:Nat}{to:TE}{pl:Sem Bool}(ho:Ei G lv env vars (eval o env) AV Rc to)(hyz:(y == z)=false)
    (he:eval (.Call (.Attribute o "replace" apos) [.Constant (.str y) k1 p1,.Constant (.str z) k2 p2] [] pos) env=(do
      let ov ← eval o env
      standAt apos.atName
      let (f,first) ← holding [ov] (getMethod ov "replace" pl)
      callWith pos f first (backTo pos (starEach [.Constant (.str y) k1 p1,.Constant (.str z) k2 p2] env)) (backToKw pos (keywordEach [] env))):=by rfl)
    (hst:backTo pos (starEach [.Constant (.str y) k1 p1,.Constant (.str z) k2 p2] env)=[(false,eval (.Constant (.str y) k1 p1) env),(false,eval (.Constant (.str z) k2 p2) env)]) :
    Ei G lv env vars (eval (.Call (.Attribute o "replace" apos) [.Constant (.str y) k1 p1,.Constant (.str z) k2 p2] [] pos) env) AV Rc (SZ y z to):=by
  intro A h₀ L m fx ρ σ c s Q Qc E ht P q k;refine methodCall_KW (pl:=pl) (wpAny_with_toks ht (ho A h₀ L m fx ρ σ c s _ _ (fun e s'=>1≤s'.toks→E e s') ht P q fun a σ₁ va h₁ tk₁ c₁ q₁ r₁ l₁ x₁ ht'=>?_)) he;have P₁:=P.next (tk:=tk₁) r₁ l₁
  try dsimp only at q₁
  split at q₁
  · rename_i x
    obtain ⟨hz,q₁⟩:=q₁;obtain ⟨t,rfl⟩:=DZ x₁;refine getMethod_builtin (typeIs_str _ _ _) PySem.F.plainAttrs_str PySem.F.slot_str_replace PySem.F.type_str_replace (fun b e=>by cases e) ?_;rw [hst];refine callWith_of (P:=G.K.In) rfl (Qe rfl) (M2 rfl (spliced_cons (wpAny_Constant_str (spliced_cons (wpAny_Constant_str (spliced_nil ⟨P₁.X,?_⟩))))));refine SC.replace (Nat.ne_of_gt ht') (Nat.succ_ne_zero _) (Nat.ne_of_lt (Nat.lt_succ_self _)) hyz hz fun t' kk=>?_;exact k _ _ _ h₁ kk c₁ q₁ r₁ l₁ (.str _ _)
  · exact q₁.elim
theorem I_it1 {e:Expr}{te:TE}(he:Ei G lv env vars (eval e env) AV Rc te):OR G lv env vars (fun ξ=>True) e (tIt te):=by
  intro A h₀ L m fx ρ σ c s Q Qc E ht P q k;refine he A h₀ L m fx ρ σ c s _ _ E ht P q fun av σ₁ v h₁ tk₁ c₁ q₁ r₁ l₁ x₁=>?_;have P₁:Pv G lv A h₀ L m fx σ₁ c₁ {s with heap:=h₁,toks:=tk₁}:=⟨P.cx,r₁⟩
  try dsimp only at q₁
  split at q₁
  · obtain ⟨x,vs,n,rfl,h1,h2⟩:=Hg x₁
    exact wpAny_pyIter_tuple (s:={s with heap:=h₁,toks:=tk₁}) ⟨_,P₁.good h1,rfl,_,rfl⟩ (k _ _ _ _ [_] _ tk₁ c₁ q₁ (r₁.addF _) l₁ VY ⟨_,x,rfl,rfl,rfl,x₁⟩)
  · obtain ⟨t,rfl⟩:=DZ x₁
    exact wpAny_pyIter_strU (s:={s with heap:=h₁,toks:=tk₁}) (k _ _ _ _ [_] _ tk₁ c₁ q₁ (r₁.addF _) l₁ VX ⟨_,t,rfl,rfl,rfl⟩)
  · obtain ⟨t,rfl⟩:=Wp x₁
    exact KBw.pyIter_bytes (s:={s with heap:=h₁,toks:=tk₁}) (k _ _ _ _ [_] _ tk₁ c₁ q₁ (r₁.addF _) l₁ Qb ⟨_,t,rfl,rfl,rfl⟩)
  · obtain ⟨q₀,q₁⟩:=q₁
    obtain ⟨l,hl⟩:=Option.isSome_iff_exists.mp q₀;obtain ⟨x,vs,n,rfl,h1,h2⟩:=Bo P₁ x₁ hl;exact wpAny_pyIter_list (s:={s with heap:=h₁,toks:=tk₁}) (BV h1) (k _ _ _ _ [_] _ tk₁ c₁ q₁ (r₁.addF _) l₁ SA ⟨_,x,rfl,rfl,rfl,x₁⟩)
set_option tactic.hygienic true in
theorem A5F {target iter:Expr}{body:List Stmt}{pos:Pos}{ti:TI}{asg:TA}{tb:TS}{tg:Expr→Prop}(htg:tg target)(hi:OR G lv env vars tg iter ti)(hg:HY G lv env vars target asg)(hb:BE G lv env vars body tb)
    (hs:∀ x,foldedSetIterable iter env x=pure x):EI G lv env vars (exec (.For target iter body [] pos) env) FlR (Gw ti asg tb):=by
  intro A h₀ L m cl fx ρ σ c s Q Qc E ht P q k;refine wpAny_For (hi A h₀ L m _ ρ σ c s _ _ E ht P.pl q fun item σ' I S il h' tk c' q' r' l' hI hS=>?_) hs;obtain ⟨n,q'⟩:=q';refine codeAny_forLoop_any (OQ G lv env vars A h₀ L fx c s S item asg tb Q) ?_ n ⟨0,ρ,σ',m,cl,c',il,h',tk,P.addI r' l',l',hS,q'⟩;rintro n _ (⟨i,ρ,σ,m,cl,c₁,il,h',tk,P,l,hS,q⟩);have Pi:=P.pv
  match e:item i σ with
  | none=>exact (NF q e).elim
  | some none =>
    refine hI.done Pi hS e _ _ fun h₂ tk₂ r₂=>?_;exact wpAny_execs_nil (k _ _ _ _ _ _ _ _ _ (Qf q e) (P.gone (hI.fld hS) r₂) l .next)
  | some (some a) =>
    obtain ⟨n,rfl,q₁⟩:=NE q e;refine wpAny_mono (hI.next Pi hS e target htg ?Q1 _ ?h1) ?h2 fun _ _ x=>x
    case h2 =>
      intro r s₁ hr;obtain ⟨v,rfl,hr⟩:=hr;exact hr
    case h1 =>
      intro v il₂ h₂ tk₂ c₂ r₂ l₂ hS₂ rv;exact hg A h₀ L m cl (il₂ ++ fx) ρ σ c₂ _ a v _ _ _ (P.stepI (hI.fld hS) r₂ l₂) rv q₁ fun ρ₃ σ₃ m₃ cl₃ c₃ h₃ tk₃ q₃ P₃ l₃=>hb A h₀ L m₃ cl₃ (il₂ ++ fx) ρ₃ σ₃ c₃ _ _ _ _ P₃ q₃ fun fl ρ₄ σ₄ m₄ cl₄ c₄ h₄ tk₄ f q₄ P₄ l₄ rf=>by
        have lall:=l.trans (l₂.trans (l₃.trans l₄));have hS₄:S (i+1) il₂ c₄:=hI.mono (l₃.trans l₄) hS₂;cases rf with
        | next=>exact ⟨n,Nat.lt_succ_self _,i+1,ρ₄,σ₄,m₄,cl₄,c₄,il₂,h₄,tk₄,P₄,lall,hS₄,q₄⟩
        | cont=>exact ⟨n,Nat.lt_succ_self _,i+1,ρ₄,σ₄,m₄,cl₄,c₄,il₂,h₄,tk₄,P₄,lall,hS₄,q₄⟩
        | brk=>exact k _ _ _ _ _ _ _ _ _ q₄ (P₄.same (hI.fld hS₄)) lall FlR.next
        | ret rr=>exact k _ _ _ _ _ _ _ _ _ q₄ (P₄.same (hI.fld hS₄)) lall (.ret rr)
noncomputable def Wz (te:TE):TI:=fun ρ σ Q=>te ρ σ fun a σ₁=>(AU σ₁ a).isSome=true∧Q (Of a) σ₁
set_option tactic.hygienic true in
theorem A5d {func e:Expr}{te:TE}{pos:Pos}(hf:Au G lv env vars func (tD (.val (.type "enumerate"))))(he:Au G lv env vars e te)
    (hc:eval (.Call func [e] [] pos) env=(do callWith pos (← eval func env) [] (backTo pos (starEach [e] env)) (backToKw pos (keywordEach [] env))))(hp:(backTo pos (starEach [e] env)).any (·.1)=false)
    (hst:starEach [e] env=(false,eval e env)::starEach [] env):DO G lv env vars U7 (.Call func [e] [] pos) (Wz te):=by
  intro A h₀ L m fx ρ σ c s Q Qc E P q k;refine Call_ (hf A h₀ L m fx ρ σ c s (fun a σ₁=>a=.d (.val (.type "enumerate"))∧σ₁ = σ) _ E P ⟨rfl,rfl⟩ fun a σ₁ va h₁ tk₁ c₁ q₁ r₁ l₁ x₁=>?_) hc;obtain ⟨rfl,rfl⟩:=q₁;obtain rfl:=UE x₁;refine PH (WV he Yu hst) hp (P.next r₁ l₁) (Q:=fun l σ₂=>match l with
    | [a]=>(AU σ₂ a).isSome=true∧Q (Of a) σ₂
    | _=>False) q ?_
  intro l σ₂ vs h₂ tk₂ c₂ q₂ r₂ l₂ x₂;split at q₂
  · cases x₂ with
    | cons rx rr =>
      cases rr;obtain ⟨q₀,q₂⟩:=q₂;obtain ⟨l,hl⟩:=Option.isSome_iff_exists.mp q₀;have P₂:Pv G lv A h₀ L m fx σ₂ c₂ {s with heap:=h₂,toks:=tk₂}:=⟨P.cx,r₂⟩
      obtain ⟨x,vs,n,rfl,h1,h2⟩:=Bo P₂ rx hl;refine call_enumerate_list (s:={s with heap:=h₂,toks:=tk₂}) (BV h1) fun h' hE hI hsz hk=>?_;refine wpAny_pyIter_enum hE ?_;obtain ⟨oi,hoi,hic,hid⟩:=hI;refine k _ _ _ _ [(h₂.objs.size+1,D0 h₂.objs.size 0 .none),(h₂.objs.size,oi)] h' _ c₂ q₂ ?_ (l₁.trans l₂) ZT ⟨Nat.succ_ne_self _,oi,x,.none,rfl,hic,hid,rx⟩;have F':=r₂.fr.keeps hk;have hN:News h₀ L h' (c₂.ml++(c₂.pl++fx)):=fun p hp=>⟨hk _ _ (r₂.nw p hp).1,(r₂.nw p hp).2⟩;have hL:L < h₂.objs.size:=r₂.fr.ns.lt;have h0:∀ b,h₂.objs.size≤b→h₀.get? b=none:=fun b hb=>by
        cases e9:h₀.get? b with
        | none=>rfl
        | some o9=>exact absurd (Heap.lt_size (r₂.fr.keep _ _ e9)) (Nat.not_lt.mpr hb)
      have key:Rep G.hT h₀ L h' m σ₂ c₂ ((h₂.objs.size+1,D0 h₂.objs.size 0 .none)::(h₂.objs.size,oi)::fx):=by
        refine ⟨F',fun p hp=>?_,?_,r₂.so⟩
        · have hp':p=(h₂.objs.size+1,D0 h₂.objs.size 0 .none)∨p=(h₂.objs.size,oi)∨p∈c₂.ml++(c₂.pl++fx):=by
            simp only [List.mem_append,List.mem_cons] at hp ⊢;rcases hp with hp | hp | hp | hp | hp <;> simp [hp]
          rcases hp' with rfl | rfl | hp
          · exact ⟨hE,Nat.ne_of_gt (Nat.lt_succ_of_lt hL),h0 _ (Nat.le_succ _)⟩
          · exact ⟨hoi,Nat.ne_of_gt hL,h0 _ (Nat.le_refl _)⟩
          · exact hN p hp
        · have nd:(((h₂.objs.size+1,D0 h₂.objs.size 0 .none)::(h₂.objs.size,oi)::(c₂.ml++(c₂.pl++fx))).map (·.1)).Nodup:=by
            rw [List.map_cons,List.map_cons,List.nodup_cons,List.nodup_cons];refine ⟨?_,?_,r₂.nd⟩
            · intro hx
              rcases List.mem_cons.mp hx with hx | hx
              · exact absurd hx (Nat.succ_ne_self _)
              · obtain ⟨p,hp,e⟩:=List.mem_map.mp hx
                have:p.1 < h₂.objs.size:=r₂.lt p hp;have e:p.1=h₂.objs.size+1:=e;omega
            · intro hx
              obtain ⟨p,hp,e⟩:=List.mem_map.mp hx;have:p.1 < h₂.objs.size:=r₂.lt p hp;have e:p.1=h₂.objs.size:=e;omega
          refine (List.Perm.nodup_iff (List.Perm.map _ ?_)).mp nd
          calc ((h₂.objs.size+1,D0 h₂.objs.size 0 .none)::(h₂.objs.size,oi)::(c₂.ml++(c₂.pl++fx))).Perm ([(h₂.objs.size+1,D0 h₂.objs.size 0 .none),(h₂.objs.size,oi)]++(c₂.ml++c₂.pl)++fx):=by simp
            _ |>.Perm ((c₂.ml++c₂.pl)++[(h₂.objs.size+1,D0 h₂.objs.size 0 .none),(h₂.objs.size,oi)]++fx):=List.Perm.append_right _ List.perm_append_comm
            _ |>.Perm _:=by simp
      exact key
  · exact q₂.elim
end
open Builtin Builtin.Str
section
variable {prog:Program}{w:World}{A:Around}{E:Value→Shared→Prop}{s:Shared}
theorem Sw {it t:Addr}{items:Array Value}(hne:t≠it):∀ (n i:Nat) (s:Shared) (Q:List Value→Shared→Prop),s.heap.IsListIter it t i→s.heap.IsList t items→i+n≤items.size →
    (∀ h',h'.IsListIter it t (i+n)→Heap.SameBut it s.heap h'→Q ((items.toList.drop i).take n) {s with heap:=h'})→wpAny (model prog w) A (draw (.ref it) n) Q E s
  | 0,i,s,Q,hit,_,_,hQ=>by
    show wpAny _ _ (pure []) Q E s;exact wpAny_pure (by simpa using hQ s.heap hit (Heap.SameBut.refl ..))
  | n+1,i,s,Q,hit,ht,hle,hQ=>by
    have hlt:i < items.size:=by omega
    show wpAny _ _ (pyNext (.ref it) >>= _) Q E s;refine wpAny_bind (wpAny_pyNext_list_item hit ht (x:=items[i]) (by simp [hlt]) fun h₁ hit₁ hs₁=>?_);refine wpAny_bind (wpAny_holding (Sw hne n (i+1) _ _ hit₁ (ht.extBut hs₁.extBut hne) (by omega) fun h₂ hit₂ hs₂=>wpAny_pure ?_));have hd:items.toList.drop i=items[i]::items.toList.drop (i+1):=by simp [List.drop_eq_getElem_cons,hlt]
    have:=hQ h₂ (by rw [show i+(n+1)=i+1+n by omega];exact hit₂) (hs₁.trans hs₂);rw [hd,List.take_succ_cons] at this;exact this
theorem NT {t:Addr}{items:Array Value}{Q:List Value→Shared→Prop}(hh:A.handled=none)(ht:s.heap.IsList t items)
    (hQ:∀ h',Heap.ExtBut s.heap.objs.size s.heap h'→Q items.toList {s with heap:=h'}):wpAny (model prog w) A (unpackItems (.ref t) items.size none) Q E s:=by
  have hlt:t≠s.heap.objs.size:=by obtain ⟨o,ho,_⟩:=ht;exact Nat.ne_of_lt (Heap.lt_size ho)
  unfold unpackItems;refine wpAny_bind ?_
  · unfold notIterableAtAll
    refine wpAny_bind (wpAny_specialOf ht.typeIs slot_list_iter.lookup ?_);refine wpAny_pure ?_;simp only [Bool.false_eq_true,if_false];refine wpAny_bind (wpAny_holding (wpAny_pyIter_list ht ?_));refine wpAny_bind (wpAny_holding (Sw hlt items.size 0 _ _ ⟨_,Heap.get?_push_size _ rfl,rfl,rfl⟩ (ht.push _) (by omega) fun h₁ hit₁ hs₁=>?_));have hall:List.take items.size (List.drop 0 items.toList)=items.toList:=by
      rw [List.drop_zero];exact List.take_of_length_le (by simp)
    rw [hall];rw [if_neg (by simp)];have ht₁:h₁.IsList t items:=(ht.push _).extBut hs₁.extBut hlt;refine wpAny_bind (wpAny_holding (wpAny_pyNext_list_end hh hit₁ ht₁ (by simp) fun h₂ he₂=>?_));simp only [Option.isSome_none,Bool.false_eq_true,if_false];refine wpAny_pure (hQ h₂ fun b o hb e=>he₂ b o hb (hs₁.extBut b o hb (Heap.get?_push_of_some _ e)))
theorem Ms {env:Env}{elts:List Expr} {x1:Nat}{pos:Pos}{t:Addr}{items:Array Value}{Q:Unit→Shared→Prop}(hh:A.handled=none)(ht:s.heap.IsList t items)
    (hn:(assignEach elts env).length=items.size)(hstar:(assignEach elts env).findIdx? (·.1)=none)
    (h:∀ h',Heap.ExtBut s.heap.objs.size s.heap h'→wpAny (model prog w) A (assignInOrder ((assignEach elts env).map (·.2)) items.toList) Q E {s with heap:=h'}) :
    wpAny (model prog w) A (assign (.Tuple elts x1 pos) env (.ref t)) Q E s:=by
  rw [arm_assign_Tuple];refine wpAny_bind (wpAny_standAt ?_);unfold unpack;rw [hn,hstar];exact wpAny_bind (wpAny_holding (NT hh ht h))
end
noncomputable def Vd (σ:Sto):AV→Option (List AV)
  | .d (.tup ds)=>some (ds.map .d)
  | a=>AU σ a
noncomputable def Wy (is:List Nat)(te:TE):TS:=fun ρ σ Q=>te ρ σ fun a σ'=>match Vd σ' a with
  | some l=>l.length=is.length∧Q .next (D6 is l ρ) σ'
  | none=>False
section
variable {G:Gl}{lv:Nat}{env:Env}{vars:List Str}
set_option tactic.hygienic true in
theorem A5w {is:List Nat}{elts:List Expr}{value:Expr}{k:Nat}{tpos pos:Pos}{te:TE}(he:BJ env)(hnd:vars.Nodup)(hn:LR env vars is elts)(hs:Au G lv env vars value te)
    (h1:swapsWithSole [.Tuple elts k tpos] value pos.line env=pure false) (h2:swappedStores [.Tuple elts k tpos] value env=pure none) :
    Ca G lv env vars (.Assign [.Tuple elts k tpos] value pos) (Wy is te):=by
  intro A h₀ L m cl fx ρ σ c s Q Qc E P q kk;refine Assign_Tuple (hs A h₀ L m _ ρ σ c s _ _ E P.pl q fun a σ₁ v h₁ tk₁ c₁ q₁ r₁ l₁ x₁=>?_) h1 h2;have P₁:Pv G lv A h₀ L m (cl++fx) σ₁ c₁ {s with heap:=h₁,toks:=tk₁}:=⟨P.pl.cx,r₁⟩
  obtain ⟨n1,n2⟩:=M8 hn;have fin:∀ (l:List AV) (vs:List Value),B1 (Rc G.hT c₁) l vs→l.length=is.length→Q .next (D6 is l ρ) σ₁→∀ h',Heap.ExtBut h₁.objs.size h₁ h' →
      wpAny (model G.prog G.w) A (assignInOrder ((assignEach elts env).map (·.2)) vs) (fun _=>Qc .next) E {s with heap:=h',toks:=tk₁}:=fun l vs x₁ hl q₁ h' hs'=>by
    have R':Rep G.hT h₀ L h' m σ₁ c₁ (cl++fx):=r₁.grow fun b o e=>hs' b o (Nat.ne_of_lt (Heap.lt_size e)) e;exact YU he hnd hn x₁ hl (P.next (tk:=tk₁) R' l₁) fun m' cl' h'' tk P'=>kk _ _ _ _ _ _ _ _ _ q₁ P' l₁ .next
  unfold Vd at q₁;split at q₁
  · rename_i l e
    obtain ⟨hl,q₁⟩:=q₁;split at e
    · cases e
      obtain ⟨x,vs,n,rfl,g1,g2⟩:=Hg x₁;refine wpAny_assign_Tuple (s:={s with heap:=h₁,toks:=tk₁}) P.pl.cx.hh ⟨_,P₁.good g1,rfl,_,rfl⟩ (by rw [n1,List.size_toArray,g2.length];simpa using hl.symm) n2 fun h' hs'=>?_;exact fin _ vs (KR g2) hl q₁ h' hs'
    · obtain ⟨x,vs,n,rfl,g1,g2⟩:=Bo P₁ x₁ e
      refine Ms (s:={s with heap:=h₁,toks:=tk₁}) P.pl.cx.hh (BV g1) (by rw [n1,List.size_toArray,← g2.length];exact hl.symm) n2 fun h' hs'=>?_;exact fin _ vs g2 hl q₁ h' hs'
  · exact q₁.elim
theorem Ze {elts:List Expr}{k:Nat}{tpos pos:Pos}{value:Expr}{names:List Str}{M:Model}{A:Around}{s:Shared}{Q:Flow→Shared→Prop}
    (h:wpR M A (eval value env) (fun v s₁=>wpR M A (unpackItems v names.length none) (fun items s₂ =>
      wpR M A (assignInOrder (names.reverse.map fun n=>bindName env n) items.reverse) (fun ξ=>Q .next) s₂) s₁) s)
    (hs:swapsWithSole [.Tuple elts k tpos] value pos.line env=pure false)
    (hw:swappedStores [.Tuple elts k tpos] value env=pure (some names)) :
    wpR M A (exec (.Assign [.Tuple elts k tpos] value pos) env) Q s:=by
  rw [exec_Assign];refine AA (Ci ?_);rw [hs];refine AA (Bd ?_);rw [if_neg (by decide)];refine AA (Df h fun v s₁ h₁=>?_);rw [hw];refine AA (Bd ?_);show wpR M A (do rule "assign.swapped-stores";let items ← unpackItems v names.length none;assignInOrder (names.reverse.map fun n=>bindName env n) items.reverse;pure .next) Q s₁;exact AA (Cf (wpAny_rule (AA (Df h₁ fun items s₂ h₂=>AA (Df h₂ fun ξ ξ x=>Bd x)))))
theorem A28 {es:List Expr}{k₁:Nat}{pos:Pos}{A:Around}{M:Model}{s:Shared}{Q:Value→Shared→Prop}(h:wpR M A (spliced (backTo pos (starEach es env))) (fun vs s'=>wpR M A (newTuple vs) Q s') s) :
    wpR M A (eval (.Tuple es k₁ pos) env) Q s:=by
  show wpR M A (do standAt pos;newTuple (← spliced (backTo pos (starEach es env)))) Q s;exact AA (Ci (AA h))
set_option tactic.hygienic true in
theorem A5n {is:List Nat}{names:List Str}{elts es:List Expr}{k k₁:Nat}{tpos vpos pos:Pos}{ts:TEs}(he:BJ env)(hnd:vars.Nodup)(hn:Nf env vars is.reverse names.reverse)(hln:names.length=is.length)(hs:REs G lv env vars es ts)
    (h1:swapsWithSole [.Tuple elts k tpos] (.Tuple es k₁ vpos) pos.line env=pure false) (h2:swappedStores [.Tuple elts k tpos] (.Tuple es k₁ vpos) env=pure (some names)) :
    RS G lv env vars (.Assign [.Tuple elts k tpos] (.Tuple es k₁ vpos) pos) (HM is ts):=by
  intro A h₀ L m cl fx ρ σ c s Q Qc P q kk;refine Ze (A28 (hs vpos A h₀ L m _ ρ σ c s _ _ P.pl q fun l σ₁ vs h₁ tk₁ c₁ q₁ r₁ l₁ x₁=>?_)) h1 h2;obtain ⟨z,hl,q₁⟩:=q₁;rw [x₁.length] at z;refine Cf (wpAny_newTuple ?_ z);have hvs:vs.toArray.size=names.length:=by rw [List.size_toArray,← x₁.length,hl,hln]
  rw [← hvs];have g:(h₁.push {cls:=.type "tuple",data:=.seq vs.toArray}).get? h₁.objs.size=some {cls:=.type "tuple",data:=.seq vs.toArray}:=Heap.get?_push_size _ rfl;have r₂:=Rep.drop (il:=[_]) (r₁.addF {cls:=.type "tuple",data:=.seq vs.toArray});refine Cf (wpAny_unpackItems_tuple (s:={s with heap:=h₁.push {cls:=.type "tuple",data:=.seq vs.toArray},toks:=tk₁}) P.pl.cx.hh ⟨_,g,rfl,_,rfl⟩ fun h' hs'=>?_);have R':Rep G.hT h₀ L h' m σ₁ c₁ (cl++fx):=r₂.grow fun b o e=>hs' b o (Nat.ne_of_lt (Heap.lt_size e)) e;exact Cf (YV he hnd hn (by simpa using x₁.reverse) (by simpa using hl) (P.next (tk:=tk₁) R' l₁) fun m' cl' h'' tk P'=>kk _ _ _ _ _ _ _ _ _ q₁ P' l₁ .next)
noncomputable abbrev RA (G:Gl) (lv:Nat) (env:Env) (vars:List Str) (op:BoolOp) (es:List Expr) (t:TT):Prop:=Nh G lv env vars (allTrue op es env) Bool Rb t
set_option tactic.hygienic true in
theorem A0N {e:Expr}{es:List Expr}{ta tb:TT}(ha:RT G lv env vars e ta)(hb:RA G lv env vars .Or es tb):RA G lv env vars .Or (e::es) (IV ta tb):=by
  intro A h₀ L m fx ρ σ c s Q Qc P q k;show wpR _ _ (isTrue e env (eval e env) >>= _) _ _;refine AA (ha A h₀ L m fx ρ σ c s _ _ P q fun b σ₁ v h₁ tk₁ c₁ q₁ r₁ l₁ x₁=>?_);obtain rfl:v=b:=x₁;cases v with
  | true=>exact Bd (k _ _ _ h₁ tk₁ c₁ q₁ r₁ l₁ rfl)
  | false=>exact hb A h₀ L m fx ρ σ₁ c₁ _ Q Qc (P.next r₁ l₁) q₁ (Kn.after k l₁)
theorem A3a {op:BoolOp}{es:List Expr}{pos:Pos}{t:TT}(h:RA G lv env vars op es t):RT G lv env vars (.BoolOp op es pos) t:=
  fun A h₀ L m fx ρ σ c s Q Qc P q k=>h A h₀ L m fx ρ σ c s Q Qc P q k
end
theorem OV {qual:Str}{scope:Scope}{L f:Addr}{cdv:Value}(h:scope.kind=.function):BJ (envOfC qual scope L f cdv):=⟨h,rfl,rfl⟩
theorem BK {scope:Scope}{cl:List (Str×Addr)}{C:Addr}{env:Env}(h:BJ env)(hs:scope.kind=.function):BJ (compEnvC scope cl C env):=⟨hs,h.gl,h.bl⟩
theorem F3 {α:Type}{p:List α→Prop}(h:∀ a,p [a]):∀ l:List α,l.length=1→p l
  | [a],_=>h a
theorem Jr {α:Type}{p:List α→Prop}(h:∀ a b,p [a,b]):∀ l:List α,l.length=2→p l
  | [a,b],_=>h a b
theorem ZV {α:Type}{p:List α→Prop}(h:∀ a b c,p [a,b,c]):∀ l:List α,l.length=3→p l
  | [a,b,c],_=>h a b c
theorem A34 {α:Type}{p:List α→Prop}(h:∀ a b c d,p [a,b,c,d]):∀ l:List α,l.length=4→p l
  | [a,b,c,d],_=>h a b c d
theorem len5 {α:Type}{p:List α→Prop}(h:∀ a b c d e,p [a,b,c,d,e]):∀ l:List α,l.length=5→p l
  | [a,b,c,d,e],_=>h a b c d e
theorem A48 {G:Gl}{lv:Nat}{f:Addr}{name qual:Str}{params:Arguments}{body:List Stmt}{scope:Scope}{dV kV doc pm cdv ct oc:Value}{an od:Option Addr}{osl:Array (Option Value)}{t:TS}(ps vs:List Str)(hlv:0 < lv)
    (ho:G.K.lookup f=some ⟨oc,od,.func (fnOf name qual params body scope dV kV doc pm an cdv ct),osl⟩)(hk:scope.kind=.function)(hco:scope.isCoroutine=false)(hgen:scope.isGenerator=false)(hcd:codeIn G.K cdv qual=true)
    (hbind:∀ vals:List Value,vals.length=ps.length→bindArgs (fnOf name qual params body scope dV kV doc pm an cdv ct) ⟨vals,[]⟩=pure (ps.zip vals))
    (hkd:(ps.all fun y=>scope.names.lookup y == some .local || scope.names.lookup y == some .cell)=true)(hcn:((cellsFrom 0 scope.names []).map (·.1)).Nodup)(hpn:(ps++vs).Nodup)
    (hb:∀ L',BJ (envOfC qual scope L' f cdv)→BE G (lv - 1) (envOfC qual scope L' f cdv) (ps++vs) body t):AY G lv (.ref f) (AT ps.length vs.length t):=
  C_def ps vs hlv ho hcd (fun vals hl ξ ξ ξ ξ=>BindsTo.of_eq (hbind vals hl)) hkd hcn (List.nodup_append.mp hpn).1 (fun L'=>hb L' (OV hk)) hk hco hgen
theorem A3s {G:Gl}{lv:Nat}{f:Addr}{name qual:Str}{params:Arguments}{body:List Stmt}{scope:Scope}{dV kV doc pm cdv ct oc:Value}{an od:Option Addr}{osl:Array (Option Value)}{t:TS}(ps vs:List Str)(hlv:0 < lv)
    (ho:G.K.lookup f=some ⟨oc,od,.func (fnOf name qual params body scope dV kV doc pm an cdv ct),osl⟩)(hk:scope.kind=.function)(hco:scope.isCoroutine=false)(hgen:scope.isGenerator=false)(hcd:codeIn G.K cdv qual=true)
    (hbind:∀ vals:List Value,vals.length=ps.length→bindArgs (fnOf name qual params body scope dV kV doc pm an cdv ct) ⟨vals,[]⟩=pure (ps.zip vals))
    (hkd:(ps.all fun y=>scope.names.lookup y == some .local || scope.names.lookup y == some .cell)=true)(hcn:((cellsFrom 0 scope.names []).map (·.1)).Nodup)(hpn:(ps++vs).Nodup)
    (hb:∀ L',BJ (envOfC qual scope L' f cdv)→RBk G (lv - 1) (envOfC qual scope L' f cdv) (ps++vs) body t):RV G lv (.ref f) (AT ps.length vs.length t):=
  A5K ps vs hlv ho hcd (fun vals hl ξ ξ ξ ξ=>BindsTo.of_eq (hbind vals hl)) hkd hcn (List.nodup_append.mp hpn).1 (fun L'=>hb L' (OV hk)) hk hco hgen
theorem It {scope:Scope}{env:Env}{cl:List (Str×Addr)}{vars:List Str}:IA env scope cl vars [] []:=⟨rfl,fun ξ h=>nomatch h⟩
theorem YK {scope:Scope}{env:Env}{cl:List (Str×Addr)}{vars:List Str}{y:Str}{i:Nat} (h0:vars[i]? = some y) (h1:scope.names.lookup y=some .free) (h2:env.kindOf y=some .cell) (h3:cl.lookup y=env.cells.lookup y):IA env scope cl vars [y] [i]:=
  ⟨by simp [h0],fun z h=>by rw [List.mem_singleton.mp h];exact ⟨h1,h2,h3⟩⟩
noncomputable def cFn (F:List D→Option D):CS:=fun args σ Q=>∃ ds d,args=ds.map .d∧F ds=some d∧Q (.d d) σ
noncomputable def Meets' (F:List D→Option D)(t:CS):Prop:=∀ ds d,F ds=some d→∀ Q:AV→Sto→Prop,(∀ σ',Q (.d d) σ')→t (ds.map .d) [] Q
noncomputable def Oj (n:Nat)(da:List D)(k:Nat)(t:TS):CS:=fun args σ Q=>args.length+da.length=n∧t ((args++da.map AV.d).map some++List.replicate k none) σ fun fl _ σ'=>match fl with
  | .ret v=>Q v σ'
  | .next=>Q (.d .none) σ'
  | _=>False
set_option tactic.hygienic true in
theorem A3t {G:Gl}{lv:Nat}{f:Addr}{name qual:Str}{params:Arguments}{body:List Stmt}{scope:Scope}{dV kV doc pm cdv ct oc:Value}{an od:Option Addr}{osl:Array (Option Value)}{t:TS}(ps vs:List Str)(da:List D)(dvs:List Value)(hda:∀ (hT:Heap)(c:Cs),Rl hT c (da.map .d) dvs)(hlv:0 < lv)
    (ho:G.K.lookup f=some ⟨oc,od,.func (fnOf name qual params body scope dV kV doc pm an cdv ct),osl⟩)(hcd:codeIn G.K cdv qual=true)
    (hbind:∀ vals:List Value,vals.length+dvs.length=ps.length→∀ h:Heap,G.K.In h→∀ s:Shared,s.heap=h→BindsTo s (fnOf name qual params body scope dV kV doc pm an cdv ct) ⟨vals,[]⟩ (ps.zip (vals++dvs)))
    (hkd:(ps.all fun y=>scope.names.lookup y == some .local || scope.names.lookup y == some .cell)=true)(hcn:((cellsFrom 0 scope.names []).map (·.1)).Nodup)(hpn:ps.Nodup)
    (hb:∀ L',RBk G (lv - 1) (envOfC qual scope L' f cdv) (ps++vs) body t)
    (hk:scope.kind=.function)(hco:scope.isCoroutine=false)(hgen:scope.isGenerator=false)   : RV G lv (.ref f) (Oj ps.length da vs.length t):=by
  intro A h₀ L m fx σ c s args₀ vals₀ Q Qc P ra₀ q k;obtain ⟨hlen₀,q⟩:=q;have ra:=B1.append ra₀ (hda G.hT c);have hld:da.length=dvs.length:=by have:=(hda G.hT c).length;simpa using this
  have hlen:(args₀ ++ da.map AV.d).length=ps.length:=by rw [List.length_append,List.length_map];exact hlen₀
  have hv0:vals₀.length+dvs.length=ps.length:=by rw [← ra₀.length,← hld];exact hlen₀
  revert ra hlen q;generalize hargs:args₀ ++ da.map AV.d=args;intro q ra hlen;obtain ⟨A₀,base,outer,fe,hB,hf,ho'⟩:=P.cx.fe;have hb0:=hbind vals₀ hv0 _ P.X s rfl;revert ra hb0;generalize hvals:vals₀ ++ dvs=vals;intro ra hb0;have hvl:vals.length=ps.length:=ra.length.symm.trans hlen;refine LS ?_;refine YD hB P.F P.N P.cx.T.nolimit hf ho'.frame ho'.kind (P.X _ _ ho) rfl (codeRec_of P.X hcd) (by have:=P.cx.dep;omega) hb0 (kindsX (Tw hkd)) hcn ?_ hco hgen hk;intro g L' h₁ tk cells FG F' N' Y B' st hlt;have Cx':Cx G (lv - 1) (A.deeper (envOfC qual scope L' f cdv)) g L':=by
    refine ⟨fun b o e=>st b o (P.cx.st b o e),P.cx.hh,?_,?_,A,base,fe::outer,envOfC qual scope L' f cdv,B',Around.frames_deeper hf,rfl,hk,hgen,hco,rfl,rfl⟩
    · have:=P.cx.dep
      show A.depth+1+3 * (lv - 1)+110 < recursionLimit;omega
    · have:=P.cx.un
      show A.units+3+100 * (lv - 1)+100 < cLine;omega
  refine hb L' (A.deeper (envOfC qual scope L' f cdv)) g L' _ cells fx _ σ c {s with heap:=h₁,toks:=tk} _ _ ⟨⟨Cx',Vn P.rep F' N' Y hlt,Tx hkd hpn ra hvl Y⟩,rfl,Tv Y⟩ q ?_
  intro fl ρ' σ' m' cl' c' h' tk' fw q' P' l r;have fin:∀ a v,Q a σ'→Rc G.hT c' a v→LeaveK h₀ L m g (YA fun f s'=>match f with | .ret v=>Qc v s' | _=>False) v {s with heap:=h',toks:=tk'}:=fun a v qa rv=>SF (s:=s) (tk':=tk') P'.pl.rep fun r=>k a σ' v h' tk' c' qa r l rv
  cases r with
  | next=>exact fin _ _ q' .none
  | brk=>exact q'.elim
  | cont=>exact q'.elim
  | ret r=>exact fin _ _ q' r
theorem Ox {P:Addr→Obj→Prop}{h k:Int}{t:Tok}{v:Value}{d:D}{es:List DictEntry}{tb:List (Int×D)}(e:h=hashInt k)(x:Dn P v d)(r:DnI P es tb):DnI P (⟨h,.int k t,v⟩::es) ((k,d)::tb):=by
  subst e;exact .cons x r
theorem A4W {α:Type}{m:Nat}{p:List α→Prop}(h:∀ a,p [a]):∀ l:List α,l.length+m=1+m→p l:=fun l e=>F3 h l (by omega)
theorem A0S {G:Gl}{lv:Nat}{f:Addr}{name qual:Str}{params:Arguments}{body:List Stmt}{scope:Scope}{dV kV doc pm cdv ct oc:Value}{an od:Option Addr}{osl:Array (Option Value)}{t:TS}(ps vs:List Str)(da:List D)(dvs:List Value)(hda:∀ (hT:Heap)(c:Cs),Rl hT c (da.map .d) dvs)(hlv:0 < lv)
    (ho:G.K.lookup f=some ⟨oc,od,.func (fnOf name qual params body scope dV kV doc pm an cdv ct),osl⟩)(hk:scope.kind=.function)(hco:scope.isCoroutine=false)(hgen:scope.isGenerator=false)(hcd:codeIn G.K cdv qual=true)
    (hbind:∀ vals:List Value,vals.length+dvs.length=ps.length→∀ h:Heap,G.K.In h→∀ s:Shared,s.heap=h→BindsTo s (fnOf name qual params body scope dV kV doc pm an cdv ct) ⟨vals,[]⟩ (ps.zip (vals++dvs)))
    (hkd:(ps.all fun y=>scope.names.lookup y == some .local || scope.names.lookup y == some .cell)=true)(hcn:((cellsFrom 0 scope.names []).map (·.1)).Nodup)(hpn:(ps++vs).Nodup)
    (hb:∀ L',BJ (envOfC qual scope L' f cdv)→RBk G (lv - 1) (envOfC qual scope L' f cdv) (ps++vs) body t):RV G lv (.ref f) (Oj ps.length da vs.length t):=
  A3t ps vs da dvs hda hlv ho hcd hbind hkd hcn (List.nodup_append.mp hpn).1 (fun L'=>hb L' (OV hk)) hk hco hgen
noncomputable abbrev plOf (o:Expr) (env:Env):Sem Bool:=do return (← importBound o env).getD true
section
variable {G:Gl}{lv:Nat}{env:Env}{vars:List Str}
end
noncomputable abbrev XE:=Lo→Sto→Option (AV×Sto)
noncomputable abbrev XEs:=Lo→Sto→Option (List AV×Sto)
noncomputable abbrev XT:=Lo→Sto→Option (Bool×Sto)
noncomputable abbrev XI:=Lo→Sto→Option (DK×Sto)
noncomputable abbrev XS:=Lo→Sto→Option (Fl×Lo×Sto)
noncomputable abbrev XA:=AV→Lo→Sto→Option (Lo×Sto)
noncomputable abbrev XMT:=AV→Sto→Option XC
noncomputable def Ad {β:Type}(t:Lo→Sto→(β→Sto→Prop)→Prop)(x:Lo→Sto→Option (β×Sto)):Prop:=∀ ρ σ b σ',x ρ σ = some (b,σ')→∀ Q:β→Sto→Prop,Q b σ'→t ρ σ Q
noncomputable def AdS (t:TS)(x:XS):Prop:=∀ ρ σ f ρ' σ',x ρ σ = some (f,ρ',σ')→∀ Q:Fl→Lo→Sto→Prop,Q f ρ' σ'→t ρ σ Q
noncomputable def AdC (t:CS)(x:XC):Prop:=∀ args σ a σ',x args σ = some (a,σ')→∀ Q:AV→Sto→Prop,Q a σ'→t args σ Q
noncomputable def AdF (t:F2)(x:XF2):Prop:=∀ a b σ r σ',x a b σ = some (r,σ')→∀ Q:AV→Sto→Prop,Q r σ'→t a b σ Q
noncomputable def AdA (t:TA)(x:XA):Prop:=∀ a ρ σ ρ' σ',x a ρ σ = some (ρ',σ')→∀ Q:Lo→Sto→Prop,Q ρ' σ'→t a ρ σ Q
noncomputable def AdM (t:MT)(x:XMT):Prop:=∀ a σ y,x a σ = some y→∃ c,t a σ = some c∧AdC c y
theorem q2 {α β:Type}{a a':α}{b b':β}(e:some (a,b)=some (a',b')){Q:α→β→Prop}(q:Q a' b'):Q a b:=by cases e;exact q
theorem q3 {α β γ:Type}{a a':α}{b b':β}{c c':γ}(e:some (a,b,c)=some (a',b',c')){Q:α→β→γ→Prop}(q:Q a' b' c'):Q a b c:=by cases e;exact q
theorem adB {β γ:Type}{t:Lo→Sto→(β→Sto→Prop)→Prop}{x:Lo→Sto→Option (β×Sto)}(h:Ad t x){ρ:Lo}{σ:Sto}{f:β×Sto→Option γ}{r:γ}{K:β→Sto→Prop}(e:(x ρ σ).bind f=some r)(k:∀ b σ',f (b,σ')=some r→K b σ'):t ρ σ K:=
  oB e fun a e1 e2=>h ρ σ a.1 a.2 e1 K (k a.1 a.2 e2)
theorem adS {γ:Type}{t:TS}{x:XS}(h:AdS t x){ρ:Lo}{σ:Sto}{f:Fl×Lo×Sto→Option γ}{r:γ}{K:Fl→Lo→Sto→Prop}(e:(x ρ σ).bind f=some r)(k:∀ b ρ' σ',f (b,ρ',σ')=some r→K b ρ' σ'):t ρ σ K:=
  oB e fun a e1 e2=>h ρ σ a.1 a.2.1 a.2.2 e1 K (k a.1 a.2.1 a.2.2 e2)
theorem adC {γ:Type}{t:CS}{x:XC}(h:AdC t x){l:List AV}{σ:Sto}{f:AV×Sto→Option γ}{r:γ}{K:AV→Sto→Prop}(e:(x l σ).bind f=some r)(k:∀ b σ',f (b,σ')=some r→K b σ'):t l σ K:=
  oB e fun a e1 e2=>h l σ a.1 a.2 e1 K (k a.1 a.2 e2)
theorem adA {γ:Type}{t:TA}{x:XA}(h:AdA t x){v:AV}{ρ:Lo}{σ:Sto}{f:Lo×Sto→Option γ}{r:γ}{K:Lo→Sto→Prop}(e:(x v ρ σ).bind f=some r)(k:∀ b σ',f (b,σ')=some r→K b σ'):t v ρ σ K:=
  oB e fun a e1 e2=>h v ρ σ a.1 a.2 e1 K (k a.1 a.2 e2)
theorem adF {γ:Type}{t:F2}{x:XF2}(h:AdF t x){v w:AV}{σ:Sto}{f:AV×Sto→Option γ}{r:γ}{K:AV→Sto→Prop}(e:(x v w σ).bind f=some r)(k:∀ b σ',f (b,σ')=some r→K b σ'):t v w σ K:=
  oB e fun a e1 e2=>h v w σ a.1 a.2 e1 K (k a.1 a.2 e2)
noncomputable def xD (x:D):XE:=fun ξ σ=>some (.d x,σ)
noncomputable def Aa (i:Nat):XE:=fun ρ σ=>match ρ[i]? with
  | some (some av)=>some (av,σ)
  | _=>none
theorem aD (x:D):Ad (tD x) (xD x):=by
  intro ρ σ b σ' e Q q;cases e;exact q
set_option tactic.hygienic true in
theorem aVar (i:Nat):Ad (Ag i) (Aa i):=by
  intro ρ σ b σ' e Q q;unfold Aa at e;unfold Ag;split at e
  · rename_i av h;cases e; (try rw [h]);exact q
  · cases e
noncomputable def Ai (g:XF2)(xa xb:XE):XE:=fun ρ σ=>(xa ρ σ).bind fun r=>(xb ρ r.2).bind fun s=>g r.1 s.1 s.2
theorem aBin {f:F2}{g:XF2}{ta tb:TE}{xa xb:XE}(hf:AdF f g)(ha:Ad ta xa)(hb:Ad tb xb):Ad (Aq f ta tb) (Ai g xa xb):=by
  intro ρ σ b σ' e Q q;exact (adB ha) e fun a σ₁ e=>(adB hb) e fun c σ₂ e=>hf _ _ _ _ _ e _ q
theorem adY (y:XC):AdC (cY y) y:=fun ξ ξ a σ' e ξ q=>⟨(a,σ'),e,q⟩
theorem adX (g:XF2):AdF (fX g) g:=fun ξ ξ ξ r σ' e ξ q=>⟨(r,σ'),e,q⟩
theorem afAdd:AdF Bl AH:=adX _
theorem afSub:AdF VH J2:=adX _
theorem afMul:AdF A1o Lz:=adX _
theorem afMod:AdF CW Ch:=adX _
theorem afDiv:AdF Oz JC:=adX _
theorem afPow:AdF fPow A4u:=adX _
theorem afGet:AdF Bf AE:=adX _
theorem afCmp (op:CmpOp):AdF (B7 op) (AF op):=adX _
noncomputable def xTr (xa:XE):XT:=fun ρ σ=>(xa ρ σ).bind fun r=>match r.1 with
  | .d (.bool b)=>some (b,r.2)
  | _=>none
noncomputable def T3 (xa xb:XT):XT:=fun ρ σ=>(xa ρ σ).bind fun r=>match r.1 with
  | true=>xb ρ r.2
  | false=>some (false,r.2)
noncomputable def DM (xa xb:XT):XT:=fun ρ σ=>(xa ρ σ).bind fun r=>match r.1 with
  | true=>some (true,r.2)
  | false=>xb ρ r.2
noncomputable def BD:XT:=fun ξ σ=>some (true,σ)
noncomputable def E1:XT:=fun ξ σ=>some (false,σ)
noncomputable def xCh (f g:XF2)(xa xb xc:XE):XE:=fun ρ σ=>(xa ρ σ).bind fun a=>(xb ρ a.2).bind fun b=>(f a.1 b.1 b.2).bind fun v=>match v.1 with
  | .d (.bool true)=>(xc ρ v.2).bind fun c=>g b.1 c.1 c.2
  | .d (.bool false)=>some (.d (.bool false),v.2)
  | _=>none
noncomputable def xIf {β:Type}(xt:XT)(xa xb:Lo→Sto→Option (β×Sto)):Lo→Sto→Option (β×Sto):=fun ρ σ=>(xt ρ σ).bind fun r=>match r.1 with
  | true=>xa ρ r.2
  | false=>xb ρ r.2
noncomputable def xNo {β:Type}:Lo→Sto→Option (β×Sto):=fun ξ ξ=>none
noncomputable def N8 (xa xb:XE):XE:=fun ρ σ=>(xa ρ σ).bind fun r=>match r.1 with
  | .d (.bool true)=>xb ρ r.2
  | .d (.bool false)=>some (.d (.bool false),r.2)
  | _=>none
theorem aTr {ta:TE}{xa:XE}(ha:Ad ta xa):Ad (tTr ta) (xTr xa):=by
  intro ρ σ b σ' e Q q;refine (adB ha) e fun a σ₁ e=>?_;cases a with
  | loc=>exact Ck e
  | d x=>cases x <;> first | exact q2 e q | exact Ck e
theorem aAnd2 {ta tb:TT}{xa xb:XT}(ha:Ad ta xa)(hb:Ad tb xb):Ad (QK ta tb) (T3 xa xb):=by
  intro ρ σ b σ' e Q q;refine (adB ha) e fun a σ₁ e=>?_;cases a
  · exact q2 e q
  · exact hb _ _ _ _ e _ q
theorem aOr2 {ta tb:TT}{xa xb:XT}(ha:Ad ta xa)(hb:Ad tb xb):Ad (IV ta tb) (DM xa xb):=by
  intro ρ σ b σ' e Q q;refine (adB ha) e fun a σ₁ e=>?_;cases a
  · exact hb _ _ _ _ e _ q
  · exact q2 e q
theorem aTrue:Ad Eh BD:=by intro ρ σ b σ' e Q q;cases e;exact q
theorem aFalse:Ad Ia E1:=by intro ρ σ b σ' e Q q;cases e;exact q
theorem aCh {f g:F2}{xf xg:XF2}{ta tb tc:TE}{xa xb xc:XE}(hf:AdF f xf)(hg:AdF g xg)(ha:Ad ta xa)(hb:Ad tb xb)(hc:Ad tc xc):Ad (tCh f g ta tb tc) (xCh xf xg xa xb xc):=by
  intro ρ σ b σ' e Q q;refine (adB ha) e fun a σ₁ e=>(adB hb) e fun b σ₂ e=>(adF hf) e fun v σ₃ e=>?_;cases v with
  | loc=>exact Ck e
  | d x=>cases x with
    | bool t =>
      cases t
      · exact q2 e q
      · exact (adB hc) e fun c σ₄ e=>hg _ _ _ _ _ e _ q
    | _=>exact Ck e
theorem aIf {β:Type}{tt:TT}{xt:XT}{ta tb:Lo→Sto→(β→Sto→Prop)→Prop}{xa xb:Lo→Sto→Option (β×Sto)}(ht:Ad tt xt)(ha:Ad ta xa)(hb:Ad tb xb):Ad (tIf tt ta tb) (xIf xt xa xb):=by
  intro ρ σ b σ' e Q q;refine (adB ht) e fun a σ₁ e=>?_;cases a
  · exact hb _ _ _ _ e _ q
  · exact ha _ _ _ _ e _ q
theorem aNo {β:Type}:Ad (β:=β) tNo xNo:=by intro ρ σ b σ' e Q q;cases e
theorem aBand {ta tb:TE}{xa xb:XE}(ha:Ad ta xa)(hb:Ad tb xb):Ad (SY ta tb) (N8 xa xb):=by
  intro ρ σ b σ' e Q q;refine (adB ha) e fun a σ₁ e=>?_;cases a with
  | loc=>exact Ck e
  | d x=>cases x with
    | bool t =>
      cases t
      · exact q2 e q
      · exact hb _ _ _ _ e _ q
    | _=>exact Ck e
noncomputable def Af:XEs:=fun ξ σ=>some ([],σ)
noncomputable def A8 (xa:XE)(xs:XEs):XEs:=fun ρ σ=>(xa ρ σ).bind fun r=>(xs ρ r.2).bind fun s=>some (r.1::s.1,s.2)
noncomputable def B2 (xs:XEs):XE:=fun ρ σ=>(xs ρ σ).bind fun r=>(Ez r.1).bind fun ds=>if ds.length≤sizeLine then some (.d (.tup ds),r.2) else none
noncomputable def BX (xs:XEs):XE:=fun ρ σ=>(xs ρ σ).bind fun r=>if r.1.length≤sizeLine then some (.loc r.2.length,r.2++[.list r.1]) else none
noncomputable def AJ (xs:XEs):XE:=fun ρ σ=>(xs ρ σ).bind fun r=>(Ez r.1).bind fun ds=>if ds.length≤sizeLine then some (.d (.lst ds),r.2) else none
theorem aNil:Ad Ap Af:=by intro ρ σ b σ' e Q q;cases e;exact q
theorem aCons {ta:TE}{ts:TEs}{xa:XE}{xs:XEs}(ha:Ad ta xa)(hs:Ad ts xs):Ad (Ac ta ts) (A8 xa xs):=by
  intro ρ σ b σ' e Q q;exact (adB ha) e fun a σ₁ e=>(adB hs) e fun l σ₂ e=>q2 e q
theorem aTup {ts:TEs}{xs:XEs}(hs:Ad ts xs):Ad (Bp ts) (B2 xs):=by
  intro ρ σ b σ' e Q q;exact (adB hs) e fun l σ₁ e=>oB e fun ds e2 e=>by rw [e2];exact oI e fun h e=>⟨h,q2 e q⟩
theorem aList {ts:TEs}{xs:XEs}(hs:Ad ts xs):Ad (Dw ts) (BX xs):=by
  intro ρ σ b σ' e Q q;exact (adB hs) e fun l σ₁ e=>oI e fun h e=>⟨h,q2 e q⟩
theorem aListF {ts:TEs}{xs:XEs}(hs:Ad ts xs):Ad (Bk ts) (AJ xs):=by
  intro ρ σ b σ' e Q q;exact (adB hs) e fun l σ₁ e=>oB e fun ds e2 e=>by rw [e2];exact oI e fun h e=>⟨h,q2 e q⟩
noncomputable def xSl (frz:Bool)(xv xl xu:XE):XE:=fun ρ σ=>(xv ρ σ).bind fun a=>(xl ρ a.2).bind fun lo=>(xu ρ lo.2).bind fun hi=>Ie frz a.1 lo.1 hi.1 hi.2
theorem aSlc {frz:Bool}{a lo hi:AV}{σ:Sto}{r:AV}{σ':Sto}(e:Ie frz a lo hi σ = some (r,σ')){Q:AV→Sto→Prop}(q:Q r σ'):fSl frz a lo hi σ Q:=⟨(r,σ'),e,q⟩
theorem aSl (frz:Bool){tv tl tu:TE}{xv xl xu:XE}(hv:Ad tv xv)(hl:Ad tl xl)(hu:Ad tu xu):Ad (tSl frz tv tl tu) (xSl frz xv xl xu):=by
  intro ρ σ b σ' e Q q;exact (adB hv) e fun a σ₁ e=>(adB hl) e fun lo σ₂ e=>(adB hu) e fun hi σ₃ e=>aSlc e q
noncomputable def Ay (T:List Addr)(name:Str)(xo:XE):XE:=fun ρ σ=>(xo ρ σ).bind fun a=>(ID a.2 a.1).bind fun i=>(i.2.lookup name).bind fun av=>if (T.contains i.1 && Fy av)=true then some (av,a.2) else none
theorem aAttr (T:List Addr)(name:Str){to:TE}{xo:XE}(ho:Ad to xo):Ad (AM T name to) (Ay T name xo):=by
  intro ρ σ b σ' e Q q;refine (adB ho) e fun a σ₁ e=>oB e fun i e2 e=>oB e fun av e3 e=>oI e fun h e=>?_;rw [Bool.and_eq_true] at h;unfold A1n;rw [e2];dsimp only;rw [e3];exact ⟨h.1,h.2,q2 e q⟩
noncomputable def Av (xs:XEs)(x:XC):XE:=fun ρ σ=>(xs ρ σ).bind fun r=>x r.1 r.2
theorem aCall {ts:TEs}{t:CS}{xs:XEs}{x:XC}(hs:Ad ts xs)(hc:AdC t x):Ad (AB ts t) (Av xs x):=by
  intro ρ σ b σ' e Q q;exact (adB hs) e fun l σ₁ e=>hc _ _ _ _ e _ q
noncomputable def xMt (xm:XMT)(xo:XE)(xs:XEs):XE:=fun ρ σ=>(xo ρ σ).bind fun a=>(xm a.1 a.2).bind fun c=>(xs ρ a.2).bind fun r=>c (a.1::r.1) r.2
theorem aMt {mt:MT}{xm:XMT}{to:TE}{ts:TEs}{xo:XE}{xs:XEs}(hm:AdM mt xm)(ho:Ad to xo)(hs:Ad ts xs):Ad (tMt mt to ts) (xMt xm xo xs):=by
  intro ρ σ b σ' e Q q;refine (adB ho) e fun a σ₁ e=>oB e fun c e2 e=>?_;obtain ⟨t,e4,hc⟩:=hm _ _ _ e2;dsimp only at e4 ⊢;rw [e4];exact (adB hs) e fun l σ₂ e=>hc _ _ _ _ e _ q
noncomputable abbrev mN {α:Type}:List (Addr×α):=[]
noncomputable abbrev mC {α:Type} (C:Addr) (c:α) (T:List (Addr×α)):List (Addr×α):=(C,c)::T
noncomputable def AdT (T:List (Addr×CS))(X:List (Addr×XC)):Prop:=∀ C y,X.lookup C=some y→∃ c,T.lookup C=some c∧AdC c y
theorem amN:AdT mN mN:=by intro C y e;cases e
theorem amC (C:Addr){c:CS}{y:XC}{T:List (Addr×CS)}{X:List (Addr×XC)}(h:AdC c y)(hT:AdT T X):AdT (mC C c T) (mC C y X):=by
  intro B z e;unfold mC at e ⊢;rw [List.lookup_cons] at e ⊢;cases hb:(B == C)
  · rw [hb] at e;exact hT _ _ e
  · rw [hb] at e;cases e;exact ⟨c,rfl,h⟩
noncomputable def Bz (name:Str)(X:List (Addr×XC)):XMT:=fun a σ=>(ID σ a).bind fun i=>match i.2.lookup name with
  | none=>X.lookup i.1
  | some _=>none
set_option tactic.hygienic true in
theorem amtU (name:Str){T:List (Addr×CS)}{X:List (Addr×XC)}(h:AdT T X):AdM (mtU name T) (Bz name X):=by
  intro a σ y e;obtain ⟨⟨C,fs⟩,e1,e⟩:=Az e;unfold mtU;rw [e1];dsimp only at e ⊢;split at e
  · rename_i hn; (try simp only [hn]);exact h _ _ e
  · cases e
noncomputable def CR (x:XC):XMT:=fun a σ=>(AU σ a).map fun ξ=>x
noncomputable def Hp (x:XC):XMT:=fun a ξ=>match a with
  | .d (.str _)=>some x
  | _=>none
noncomputable def A4v (x:XC):XMT:=fun a ξ=>match a with
  | .d (.dict _)=>some x
  | _=>none
noncomputable def xmtB (x:XC):XMT:=fun a σ=>match a with
  | .loc n=>(match σ[n]? with
    | some (.ba _)=>some x
    | _=>none)
  | _=>none
theorem amtL {t:CS}{x:XC}(h:AdC t x):AdM (mtL t) (CR x):=by
  intro a σ y e;obtain ⟨l,e1,e⟩:=Bx e;cases e;exact ⟨t,by unfold mtL;rw [e1];rfl,h⟩
theorem amtS {t:CS}{x:XC}(h:AdC t x):AdM (mtS t) (Hp x):=by
  intro a σ y e;unfold Hp at e;split at e
  · cases e;exact ⟨t,rfl,h⟩
  · cases e
theorem amtD {t:CS}{x:XC}(h:AdC t x):AdM (mtD t) (A4v x):=by
  intro a σ y e;unfold A4v at e;split at e
  · cases e;exact ⟨t,rfl,h⟩
  · cases e
set_option tactic.hygienic true in
theorem amtB {t:CS}{x:XC}(h:AdC t x):AdM (mtB t) (xmtB x):=by
  intro a σ y e;unfold xmtB at e;split at e
  · split at e
    · rename_i n _ b hb;cases e;exact ⟨t,by unfold mtB;simp only [hb],h⟩
    · cases e
  · cases e
noncomputable def xFz (x:XE):XE:=fun ρ σ=>(x ρ σ).bind fun r=>(frz r.1 r.2).bind fun s=>some (.d s.1,s.2)
theorem aFz {t:TE}{x:XE}(h:Ad t x):Ad (tFz t) (xFz x):=by
  intro ρ σ b σ' e Q q;exact (adB h) e fun a σ₁ e=>oB e fun y e2 e=>by rw [e2];exact q2 e q
noncomputable def Mi (i:Nat)(x:XS):XS:=fun ρ σ=>match ρ[i]? with
  | some (some a)=>(frz a σ).bind fun s=>x (ρ.set i (some (.d s.1))) s.2
  | _=>none
set_option tactic.hygienic true in
theorem aFzV (i:Nat){t:TS}{x:XS}(h:AdS t x):AdS (ON i t) (Mi i x):=by
  intro ρ σ f ρ' σ' e Q q;unfold Mi at e;unfold ON;split at e
  · rename_i a ha
    obtain ⟨⟨y,σ₂⟩,e2,e⟩:=Az e
    try rw [ha]
    try dsimp only
    rw [e2];exact h _ _ _ _ _ e _ q
  · cases e
noncomputable def xIt (xe:XE):XI:=fun ρ σ=>(xe ρ σ).bind fun r=>match r.1 with
  | .d (.tup ds)=>some (VW ds,r.2)
  | .d (.str x)=>some (A1P x,r.2)
  | .d (.bytes b)=>some (A1O b,r.2)
  | av=>if (AU r.2 av).isSome=true then some (GF av,r.2) else none
theorem aIt {te:TE}{xe:XE}(h:Ad te xe):Ad (tIt te) (xIt xe):=by
  intro ρ σ b σ' e Q q;refine (adB h) e fun a σ₁ e=>?_;cases a with
  | loc=>exact oI e fun h e=>⟨h,q2 e q⟩
  | d x=>cases x <;> first | exact q2 e q | exact oI e fun h e=>⟨h,q2 e q⟩
noncomputable def Ic (xe:XE):XI:=fun ρ σ=>(xe ρ σ).bind fun r=>match r.1 with
  | .d (.int n)=>if -(2 ^ 62)≤n∧n < 2 ^ 62 then some (HJ n,r.2) else none
  | _=>none
theorem aRange {te:TE}{xe:XE}(h:Ad te xe):Ad (Mh te) (Ic xe):=by
  intro ρ σ b σ' e Q q;refine (adB h) e fun a σ₁ e=>?_;cases a with
  | loc=>exact Ck e
  | d x=>cases x <;> first | exact Ck e | exact oI e fun h e=>⟨h.1,h.2,q2 e q⟩
noncomputable def T4 (xe:XE):XI:=fun ρ σ=>(xe ρ σ).bind fun r=>if (AU r.2 r.1).isSome=true then some (Of r.1,r.2) else none
theorem aEnum {te:TE}{xe:XE}(h:Ad te xe):Ad (Wz te) (T4 xe):=by
  intro ρ σ b σ' e Q q;exact (adB h) e fun a σ₁ e=>oI e fun hh e=>⟨hh,q2 e q⟩
noncomputable def BN (i:Nat):XA:=fun a ρ σ=>some (ρ.set i (some a),σ)
noncomputable def MI (is:List Nat):XA:=fun a ρ σ=>match a with
  | .d (.tup ds)=>if ds.length=is.length then some (UJ is ds ρ,σ) else none
  | _=>none
theorem gaName (i:Nat):AdA (Hc i) (BN i):=by intro a ρ σ ρ' σ' e Q q;cases e;exact q
theorem gaTup (is:List Nat):AdA (RM is) (MI is):=by
  intro a ρ σ ρ' σ' e Q q;cases a with
  | loc=>exact Ck e
  | d x=>cases x <;> first | exact Ck e | exact oI e fun h e=>⟨h,q2 e q⟩
noncomputable def Iz (item:DK)(asg:XA)(body:XS):Nat→Nat→XS
  | 0,i=>fun ρ σ=>match item i σ with
    | some none=>some (.next,ρ,σ)
    | _=>none
  | n+1,i=>fun ρ σ=>match item i σ with
    | none=>none
    | some none=>some (.next,ρ,σ)
    | some (some a)=>(asg a ρ σ).bind fun r=>(body r.1 r.2).bind fun s=>match s.1 with
      | .next=>Iz item asg body n (i+1) s.2.1 s.2.2
      | .cont=>Iz item asg body n (i+1) s.2.1 s.2.2
      | .brk=>some (.next,s.2.1,s.2.2)
      | .ret v=>some (.ret v,s.2.1,s.2.2)
noncomputable abbrev Oe:Nat:=100000
noncomputable def DL (xi:XI)(asg:XA)(body:XS):XS:=fun ρ σ=>(xi ρ σ).bind fun r=>Iz r.1 asg body Oe 0 ρ r.2
set_option tactic.hygienic true in
theorem aLoop {item:DK}{asg:TA}{xasg:XA}{body:TS}{xbody:XS}(ha:AdA asg xasg)(hb:AdS body xbody)(n:Nat):∀ i,AdS (Hi item asg body n i) (Iz item xasg xbody n i):=by
  induction n with
  | zero =>
    intro i ρ σ f ρ' σ' e Q q;unfold Iz at e;unfold Hi;generalize item i σ = o at e ⊢;cases o with
    | none=>exact Ck e
    | some o=>cases o with
      | none=>exact ⟨rfl,q3 e q⟩
      | some=>exact Ck e
  | succ n ih =>
    intro i ρ σ f ρ' σ' e Q q;unfold Iz at e;unfold Hi;generalize item i σ = o at e ⊢;cases o with
    | none=>exact Ck e
    | some o=>cases o with
      | none=>exact q3 e q
      | some a =>
        refine (adA ha) e fun ρ₁ σ₁ e=>(adS hb) e fun fl ρ₂ σ₂ e=>?_;cases fl with
        | next=>exact ih _ _ _ _ _ _ e _ q
        | cont=>exact ih _ _ _ _ _ _ e _ q
        | _=>exact q3 e q
theorem aFor {ti:TI}{xi:XI}{asg:TA}{xasg:XA}{body:TS}{xbody:XS}(hi:Ad ti xi)(ha:AdA asg xasg)(hb:AdS body xbody):AdS (Gw ti asg body) (DL xi xasg xbody):=by
  intro ρ σ f ρ' σ' e Q q;exact (adB hi) e fun item σ₁ e=>⟨Oe,aLoop ha hb _ _ _ _ _ _ _ e _ q⟩
noncomputable def Gz (item:DK)(fr:Lo)(xt:XT)(xe:XE):Nat→Nat→Sto→List AV→Option (List AV×Sto)
  | 0,i,σ,acc=>match item i σ with
    | some none=>some (acc,σ)
    | _=>none
  | n+1,i,σ,acc=>match item i σ with
    | none=>none
    | some none=>some (acc,σ)
    | some (some a)=>(xt (some a::fr) σ).bind fun b=>match b.1 with
      | true=>(xe (some a::fr) b.2).bind fun y=>Gz item fr xt xe n (i+1) y.2 (acc++[y.1])
      | false=>Gz item fr xt xe n (i+1) b.2 acc
noncomputable def C7 (xi:XI)(fr:List Nat)(xt:XT)(xe:XE):XE:=fun ρ σ=>(xi ρ σ).bind fun r=>(Gz r.1 (fr.map fun i=>(ρ[i]?).join) xt xe Oe 0 r.2 []).bind fun s=>some (.loc s.2.length,s.2++[.list s.1])
theorem A5N {item:DK}{fr:Lo}{tt:TT}{xt:XT}{te:TE}{xe:XE}(ht:Ad tt xt)(he:Ad te xe)(n:Nat):∀ (i:Nat) (σ:Sto) (acc l:List AV) (σ':Sto),Gz item fr xt xe n i σ acc=some (l,σ') →
    ∀ K:List AV→Sto→Prop,K l σ'→G2 item fr tt te n i σ acc K:=by
  induction n with
  | zero =>
    intro i σ acc l σ' e K q;unfold Gz at e;unfold G2;generalize item i σ = o at e ⊢;cases o with
    | none=>exact Ck e
    | some o=>cases o with
      | none=>exact ⟨rfl,q2 e q⟩
      | some=>exact Ck e
  | succ n ih =>
    intro i σ acc l σ' e K q;unfold Gz at e;unfold G2;generalize item i σ = o at e ⊢;cases o with
    | none=>exact Ck e
    | some o=>cases o with
      | none=>exact q2 e q
      | some a =>
        refine (adB ht) e fun b σ₁ e=>?_;cases b
        · exact ih _ _ _ _ _ e K q
        · exact (adB he) e fun y σ₂ e=>ih _ _ _ _ _ e K q
theorem aComp {ti:TI}{xi:XI}{tt:TT}{xt:XT}{te:TE}{xe:XE}(hi:Ad ti xi)(fr:List Nat)(ht:Ad tt xt)(he:Ad te xe):Ad (Eg ti fr tt te) (C7 xi fr xt xe):=by
  intro ρ σ b σ' e Q q;exact (adB hi) e fun item σ₁ e=>oB e fun l e2 e=>⟨Oe,by decide,A5N ht he _ _ _ _ _ _ e2 _ (q2 e q)⟩
noncomputable def Am:XS:=fun ρ σ=>some (.next,ρ,σ)
noncomputable def Al (a b:XS):XS:=fun ρ σ=>(a ρ σ).bind fun r=>match r.1 with
  | .next=>b r.2.1 r.2.2
  | .ret v=>some (.ret v,r.2.1,r.2.2)
  | .brk=>some (.brk,r.2.1,r.2.2)
  | .cont=>some (.cont,r.2.1,r.2.2)
noncomputable def B8 (x:XE):XS:=fun ρ σ=>(x ρ σ).bind fun r=>some (.ret r.1,ρ,r.2)
noncomputable def xSt (x:XE):XS:=fun ρ σ=>(x ρ σ).bind fun r=>match r.1 with
  | .d .none=>some (.next,ρ,r.2)
  | .d (.int _)=>some (.next,ρ,r.2)
  | .d (.str _)=>some (.next,ρ,r.2)
  | _=>none
noncomputable def AO (b:XT)(x y:XS):XS:=fun ρ σ=>(b ρ σ).bind fun r=>match r.1 with
  | true=>x ρ r.2
  | false=>y ρ r.2
noncomputable def Bm (i:Nat)(x:XE):XS:=fun ρ σ=>(x ρ σ).bind fun r=>some (.next,ρ.set i (some r.1),r.2)
noncomputable def WL (T:List Addr)(name:Str)(a v:AV)(σ:Sto):Option Sto:=match a with
  | .loc n=>(match σ[n]? with
    | some (.inst C fs)=>if T.contains C=true∧fs.length < 1000 then some (σ.set n (.inst C (MP name v fs))) else none
    | _=>none)
  | _=>none
noncomputable def BL (T:List Addr)(name:Str)(xv xo:XE):XS:=fun ρ σ=>(xv ρ σ).bind fun v=>(xo ρ v.2).bind fun a=>(WL T name a.1 v.1 a.2).bind fun σ₃=>some (.next,ρ,σ₃)
noncomputable def Fp:XS:=fun ξ ξ=>none
theorem aNext:AdS At Am:=by intro ρ σ f ρ' σ' e Q q;cases e;exact q
set_option tactic.hygienic true in
theorem aSeq {a b:TS}{xa xb:XS}(ha:AdS a xa)(hb:AdS b xb):AdS (As a b) (Al xa xb):=by
  intro ρ σ f ρ' σ' e Q q;refine (adS ha) e fun fl ρ₁ σ₁ e=>?_;cases fl with
  | next=>exact hb _ _ _ _ _ e _ q
  | _=>exact q3 e q
theorem aRet {t:TE}{x:XE}(h:Ad t x):AdS (Bi t) (B8 x):=by
  intro ρ σ f ρ' σ' e Q q;exact (adB h) e fun a σ₁ e=>q3 e q
theorem aSt {t:TE}{x:XE}(h:Ad t x):AdS (tSt t) (xSt x):=by
  intro ρ σ f ρ' σ' e Q q;refine (adB h) e fun a σ₁ e=>?_;cases a with
  | loc=>exact Ck e
  | d x=>cases x <;> first | exact Ck e | exact ⟨trivial,q3 e q⟩
theorem aCase {b:TT}{xb:XT}{x y:TS}{xx xy:XS}(hb:Ad b xb)(hx:AdS x xx)(hy:AdS y xy):AdS (Bb b x y) (AO xb xx xy):=by
  intro ρ σ f ρ' σ' e Q q;refine (adB hb) e fun a σ₁ e=>?_;cases a
  · exact hy _ _ _ _ _ e _ q
  · exact hx _ _ _ _ _ e _ q
theorem aLet (i:Nat){t:TE}{x:XE}(h:Ad t x):AdS (BY i t) (Bm i x):=by
  intro ρ σ f ρ' σ' e Q q;exact (adB h) e fun a σ₁ e=>q3 e q
theorem aSet {T:List Addr}{name:Str}{a v:AV}{σ σ':Sto}(e:WL T name a v σ = some σ'){Q:Sto→Prop}(q:Q σ'):A1p T name a v σ Q:=by
  cases a with
  | d=>exact Ck e
  | loc n =>
    unfold WL at e;unfold A1p;dsimp only at e ⊢;generalize σ[n]? = o at e ⊢;cases o with
    | none=>exact Ck e
    | some o=>cases o <;> first | exact Ck e | exact oI e fun h e=>⟨h.1,h.2,(Option.some.inj e) ▸ q⟩
theorem aSetA (T:List Addr)(name:Str){tv to:TE}{xv xo:XE}(hv:Ad tv xv)(ho:Ad to xo):AdS (C1 T name tv to) (BL T name xv xo):=by
  intro ρ σ f ρ' σ' e Q q;refine (adB hv) e fun v σ₁ e=>(adB ho) e fun a σ₂ e=>oB e fun σ₃ e3 e=>?_;exact aSet e3 (q3 e q)
theorem aNoS:AdS Gb Fp:=by intro ρ σ f ρ' σ' e Q q;cases e
noncomputable def Za (is:List Nat)(xs:XEs):XS:=fun ρ σ=>(xs ρ σ).bind fun r=>if r.1.length≤sizeLine∧r.1.length=is.length then some (.next,D6 is r.1 ρ,r.2) else none
noncomputable def DJ (is:List Nat)(xs:XEs):XS:=fun ρ σ=>(xs ρ σ).bind fun r=>if r.1.length≤sizeLine∧r.1.length=is.length then some (.next,D6 is.reverse r.1.reverse ρ,r.2) else none
noncomputable def WI (is:List Nat)(xe:XE):XS:=fun ρ σ=>(xe ρ σ).bind fun r=>(Vd r.2 r.1).bind fun l=>if l.length=is.length then some (.next,D6 is l ρ,r.2) else none
theorem aAsgT (is:List Nat){ts:TEs}{xs:XEs}(h:Ad ts xs):AdS (Z2 is ts) (Za is xs):=by
  intro ρ σ f ρ' σ' e Q q;exact (adB h) e fun l σ₁ e=>oI e fun hh e=>⟨hh.1,hh.2,q3 e q⟩
theorem aAsgS (is:List Nat){ts:TEs}{xs:XEs}(h:Ad ts xs):AdS (HM is ts) (DJ is xs):=by
  intro ρ σ f ρ' σ' e Q q;exact (adB h) e fun l σ₁ e=>oI e fun hh e=>⟨hh.1,hh.2,q3 e q⟩
theorem aAsgG (is:List Nat){te:TE}{xe:XE}(h:Ad te xe):AdS (Wy is te) (WI is xe):=by
  intro ρ σ f ρ' σ' e Q q;exact (adB h) e fun a σ₁ e=>oB e fun l e2 e=>by rw [e2];exact oI e fun hh e=>⟨hh,q3 e q⟩
noncomputable def Ye (r:Fl×Lo×Sto):Option (AV×Sto):=match r.1 with
  | .ret v=>some (v,r.2.2)
  | .next=>some (.d .none,r.2.2)
  | _=>none
noncomputable def By (n k:Nat)(x:XS):XC:=fun args σ=>if args.length=n then (x (args.map some++List.replicate k none) σ).bind Ye else none
noncomputable def WJ (n:Nat)(da:List D)(k:Nat)(x:XS):XC:=fun args σ=>if args.length+da.length=n then (x ((args++da.map AV.d).map some++List.replicate k none) σ).bind Ye else none
set_option tactic.hygienic true in
theorem Zb {σ':Sto}{a:AV}{Q:AV→Sto→Prop}(q:Q a σ')(fl:Fl)(ρ:Lo)(σ:Sto):Ye (fl,ρ,σ)=some (a,σ')→(match fl with
  | .ret v=>Q v σ
  | .next=>Q (.d .none) σ
  | _=>False):=by
  intro e;cases fl <;> first | exact Ck e | exact q2 e q
theorem C5 (n k:Nat){t:TS}{x:XS}(h:AdS t x):AdC (AT n k t) (By n k x):=by
  intro args σ a σ' e Q q;exact oI e fun h' e=>⟨h',(adS h) e fun fl ρ₁ σ₁ e=>Zb q _ _ _ e⟩
theorem A4I (n:Nat)(da:List D)(k:Nat){t:TS}{x:XS}(h:AdS t x):AdC (Oj n da k t) (WJ n da k x):=by
  intro args σ a σ' e Q q;exact oI e fun h' e=>⟨h',(adS h) e fun fl ρ₁ σ₁ e=>Zb q _ _ _ e⟩
noncomputable def Bc (x:XC):XC:=fun args σ=>(Ez args).bind fun ξ=>(x args []).bind fun r=>match r.1 with
  | .d d=>some (.d d,σ)
  | _=>none
theorem BC {t:CS}{x:XC}(h:AdC t x):AdC (Bt t) (Bc x):=by
  intro args σ a σ' e Q q;refine oB e fun ds e1 e=>⟨ds,IM e1,(adC h) e fun b σ₁ e=>?_⟩;cases b with
  | loc=>exact Ck e
  | d x=>exact ⟨x,rfl,q2 e q⟩
noncomputable def Yi (C:Addr)(x:XC):XC:=fun args σ=>(x (.loc σ.length::args) (σ ++ [.inst C []])).bind fun r=>match r.1 with
  | .d .none=>some (.loc σ.length,r.2)
  | _=>none
theorem Zn (C:Addr){t:CS}{x:XC}(h:AdC t x):AdC (Vo C t) (Yi C x):=by
  intro args σ a σ' e Q q;refine (adC h) e fun b σ₁ e=>?_;cases b with
  | loc=>exact Ck e
  | d x=>cases x <;> first | exact Ck e | exact ⟨rfl,q2 e q⟩
noncomputable def ED (x:XE):XE:=fun ρ σ=>(x ρ σ).bind fun r=>match r.1 with
  | .d (.int i)=>some (.d (.int (-i)),r.2)
  | _=>none
theorem aNeg {t:TE}{x:XE}(h:Ad t x):Ad (Mg t) (ED x):=by
  intro ρ σ b σ' e Q q;refine (adB h) e fun a σ₁ e=>?_;cases a with
  | loc=>exact Ck e
  | d x=>cases x <;> first | exact Ck e | exact q2 e q
noncomputable def Yd:XE:=fun ξ σ=>some (.d (.dict []),σ)
theorem aDict0:Ad QL Yd:=by intro ρ σ b σ' e Q q;cases e;exact q
noncomputable def WK (Dt:List (PyData×PyData))(x:XE):XE:=fun ρ σ=>(x ρ σ).bind fun r=>match r.1 with
  | .d (.int i)=>(match PySem.Spec.lookup (.int i) Dt with
    | some (.int j)=>some (.d (.int j),r.2)
    | _=>none)
  | _=>none
theorem A8y (Dt:List (PyData×PyData)){t:TE}{x:XE}(h:Ad t x):Ad (N4 Dt t) (WK Dt x):=by
  intro ρ σ b σ' e Q q;refine (adB h) e fun a σ₁ e=>?_;cases a with
  | loc=>exact Ck e
  | d x=>cases x with
    | int i =>
      dsimp only at e ⊢;generalize PySem.Spec.lookup (.int i) Dt=o at e ⊢;cases o with
      | none=>exact Ck e
      | some y=>cases y <;> first | exact Ck e | exact q2 e q
    | _=>exact Ck e
noncomputable def Om (y z:Str)(x:XE):XE:=fun ρ σ=>(x ρ σ).bind fun r=>match r.1 with
  | .d (.str w)=>if w.length+(w.length+1) * z.length≤16777216 then some (.d (.str (Txt.replace w y z)),r.2) else none
  | _=>none
theorem aRepl (y z:Str){t:TE}{x:XE}(h:Ad t x):Ad (SZ y z t) (Om y z x):=by
  intro ρ σ b σ' e Q q;refine (adB h) e fun a σ₁ e=>?_;cases a with
  | loc=>exact Ck e
  | d x=>cases x <;> first | exact Ck e | exact oI e fun hh e=>⟨hh,q2 e q⟩
noncomputable def yBa:XC:=fun args σ=>match args with
  | []=>some (.loc σ.length,σ ++ [.ba #[]])
  | _=>none
theorem bBa:AdC cBa yBa:=by
  intro args σ a σ' e Q q;cases args with
  | nil=>exact ⟨rfl,q2 e q⟩
  | cons=>exact Ck e
theorem bLen:AdC Ea BW:=adY _
theorem bAbs:AdC A3F WM:=adY _
theorem bMax:AdC cMax Yl:=adY _
theorem bMin:AdC cMin Ym:=adY _
theorem bStr:AdC Ru NZ:=adY _
theorem bInt:AdC cInt yInt:=adY _
theorem bTuple:AdC I0 GA:=adY _
theorem bList:AdC A1b Zc:=adY _
theorem bAll:AdC cAll yAll:=adY _
theorem bAny:AdC cAny yAny:=adY _
theorem bOrd:AdC cOrd yOrd:=adY _
theorem bChr:AdC cChr yChr:=adY _
theorem bApp:AdC Nm Hx:=adY _
theorem bExt:AdC Rt Hq:=adY _
theorem bPop:AdC cPop Yn:=adY _
theorem bJoin:AdC LC Di:=adY _
theorem bSplit:AdC TF KE:=adY _
theorem bGet:AdC A3G A4w:=adY _
theorem bBaApp:AdC Tz Yg:=adY _
theorem bBytes:AdC Xa Yh:=adY _
theorem bIndex:AdC TB KD:=adY _
theorem e_b {α β:Type}{o:Option α}{f:α→Option β}{a:α}{r:Option β}(h:o=some a)(k:f a=r):o.bind f=r:=by subst h;exact k
section
variable {ρ ρ₁:Lo}{σ σ₁ σ₂ σ₃:Sto}{x xa xb xc xo:XE}{xs:XEs}{v a b c:AV}{vs:List AV}{t t':Bool}{xt xu:XT}{A B:XS}
noncomputable def kSeq (B:XS)(r:Fl×Lo×Sto):Option (Fl×Lo×Sto):=match r.1 with
  | .next=>B r.2.1 r.2.2
  | .ret v=>some (.ret v,r.2.1,r.2.2)
  | .brk=>some (.brk,r.2.1,r.2.2)
  | .cont=>some (.cont,r.2.1,r.2.2)
noncomputable def A1S (A B:XS)(ρ:Lo)(r:Bool×Sto):Option (Fl×Lo×Sto):=match r.1 with
  | true=>A ρ r.2
  | false=>B ρ r.2
noncomputable def kOr (xu:XT)(ρ:Lo)(r:Bool×Sto):Option (Bool×Sto):=match r.1 with
  | true=>some (true,r.2)
  | false=>xu ρ r.2
noncomputable def kAnd (xu:XT)(ρ:Lo)(r:Bool×Sto):Option (Bool×Sto):=match r.1 with
  | true=>xu ρ r.2
  | false=>some (false,r.2)
variable {p:Fl×Lo×Sto}{q:Bool×Sto}{R:Option (Fl×Lo×Sto)}{S:Option (AV×Sto)}{T:Option (Bool×Sto)}{U:Option (List AV×Sto)}
theorem VG (h:A ρ σ = some p)(k:kSeq B p=R):Al A B ρ σ = R:=e_b h k
theorem e_kn (k:B ρ σ = R):kSeq B (.next,ρ,σ)=R:=k
theorem e_kr:kSeq B (.ret v,ρ,σ)=some (.ret v,ρ,σ):=rfl
theorem e_Case (h:xt ρ σ = some q)(k:A1S A B ρ q=R):AO xt A B ρ σ = R:=e_b h k
theorem e_ct (k:A ρ σ = R):A1S A B ρ (true,σ)=R:=k
theorem e_cf (k:B ρ σ = R):A1S A B ρ (false,σ)=R:=k
theorem e_Or (h:xt ρ σ = some q)(k:kOr xu ρ q=T):DM xt xu ρ σ = T:=e_b h k
theorem e_ot:kOr xu ρ (true,σ)=some (true,σ):=rfl
theorem e_of (k:xu ρ σ = T):kOr xu ρ (false,σ)=T:=k
theorem e_And (h:xt ρ σ = some q)(k:kAnd xu ρ q=T):T3 xt xu ρ σ = T:=e_b h k
theorem e_at (k:xu ρ σ = T):kAnd xu ρ (true,σ)=T:=k
theorem e_af:kAnd xu ρ (false,σ)=some (false,σ):=rfl
theorem e_Tr (h:x ρ σ = some (.d (.bool t),σ₁)):xTr x ρ σ = some (t,σ₁):=e_b h rfl
theorem A6j:BD ρ σ = some (true,σ):=rfl
theorem A3P:E1 ρ σ = some (false,σ):=rfl
theorem e_Next:Am ρ σ = some (.next,ρ,σ):=rfl
theorem e_D {d:D}:xD d ρ σ = some (.d d,σ):=rfl
theorem HI {i:Nat}(h:ρ[i]? = some (some v)):Aa i ρ σ = some (v,σ):=by unfold Aa;rw [h]
theorem A1k {i:Nat}(h:x ρ σ = some (v,σ₁)):Bm i x ρ σ = some (.next,ρ.set i (some v),σ₁):=e_b h rfl
theorem A4Q (h:x ρ σ = some (v,σ₁)):B8 x ρ σ = some (.ret v,ρ,σ₁):=e_b h rfl
theorem e_StN (h:x ρ σ = some (.d .none,σ₁)):xSt x ρ σ = some (.next,ρ,σ₁):=e_b h rfl
theorem YH {g:XF2} (h1:xa ρ σ = some (a,σ₁)) (h2:xb ρ σ₁ = some (b,σ₂)) (h3:g a b σ₂ = S):Ai g xa xb ρ σ = S:=e_b h1 (e_b h2 h3)
theorem Q2:Af ρ σ = some ([],σ):=rfl
theorem IN (h1:xa ρ σ = some (a,σ₁)) (h2:xs ρ σ₁ = some (vs,σ₂)):A8 xa xs ρ σ = some (a::vs,σ₂):=e_b h1 (e_b h2 rfl)
theorem Xo {f:XC} (h1:xs ρ σ = some (vs,σ₁)) (h2:f vs σ₁ = S):Av xs f ρ σ = S:=e_b h1 h2
theorem A1l {m:XMT}{f:XC} (h1:xo ρ σ = some (a,σ₁)) (h2:m a σ₁ = some f) (h3:xs ρ σ₁ = some (vs,σ₂)) (h4:f (a::vs) σ₂ = S):xMt m xo xs ρ σ = S:=e_b h1 (e_b h2 (e_b h3 h4))
theorem e_mU {n:Nat}{C:Addr}{fs:List (Str×AV)}{y:Str}{X:List (Addr×XC)}{f:XC} (h1:σ[n]? = some (.inst C fs)) (h2:fs.lookup y=none) (h3:X.lookup C=some f):Bz y X (.loc n) σ = some f:=by
  refine e_b (a:=(C,fs)) (by unfold ID;simp only [h1]) ?_;dsimp only;rw [h2];exact h3
theorem Q3 {n:Nat}{l:List AV}(h:σ[n]? = some (.list l)):AU σ (.loc n)=some l:=by unfold AU;simp only [h]
theorem e_mL {n:Nat}{l:List AV}{f:XC}(h:σ[n]? = some (.list l)):CR f (.loc n) σ = some f:=by unfold CR;rw [Q3 h];rfl
theorem e_Attr {n:Nat}{C:Addr}{fs:List (Str×AV)}{y:Str}{L:List Addr} (h1:xo ρ σ = some (.loc n,σ₁)) (h2:σ₁[n]? = some (.inst C fs)) (h3:fs.lookup y=some v) (h4:(L.contains C && Fy v)=true):Ay L y xo ρ σ = some (v,σ₁):=
  e_b h1 (e_b (a:=(C,fs)) (by unfold ID;simp only [h2]) (e_b h3 (if_pos h4)))
theorem e_ListF {ds:List D} (h1:xs ρ σ = some (vs,σ₁)) (h2:Ez vs=some ds) (h3:ds.length≤sizeLine):AJ xs ρ σ = some (.d (.lst ds),σ₁):=e_b h1 (e_b h2 (if_pos h3))
theorem e_Tup {ds:List D} (h1:xs ρ σ = some (vs,σ₁)) (h2:Ez vs=some ds) (h3:ds.length≤sizeLine):B2 xs ρ σ = some (.d (.tup ds),σ₁):=e_b h1 (e_b h2 (if_pos h3))
theorem e_List (h1:xs ρ σ = some (vs,σ₁)) (h3:vs.length≤sizeLine):BX xs ρ σ = some (.loc σ₁.length,σ₁ ++ [.list vs]):=e_b h1 (if_pos h3)
theorem A1m {z:Bool} (h1:xa ρ σ = some (a,σ₁)) (h2:xb ρ σ₁ = some (b,σ₂)) (h3:xc ρ σ₂ = some (c,σ₃)) (h4:Ie z a b c σ₃ = S):xSl z xa xb xc ρ σ = S:=e_b h1 (e_b h2 (e_b h3 h4))
theorem e_SetA {n:Nat}{C:Addr}{fs:List (Str×AV)}{y:Str}{L:List Addr} (h1:xa ρ σ = some (v,σ₁)) (h2:xo ρ σ₁ = some (.loc n,σ₂)) (h3:σ₂[n]? = some (.inst C fs)) (h4:L.contains C=true) (h5:fs.length < 1000){gs:List (Str×AV)} (h6:MP y v fs=gs):BL L y xa xo ρ σ = some (.next,ρ,σ₂.set n (.inst C gs)):=
  e_b h1 (e_b h2 (e_b (a:=σ₂.set n (.inst C gs)) (by subst h6;unfold WL;simp only [h3];exact if_pos ⟨h4,h5⟩) rfl))
theorem e_AsgS {is:List Nat} (h1:xs ρ σ = some (vs,σ₁)) (h2:vs.length≤sizeLine∧vs.length=is.length):DJ is xs ρ σ = some (.next,D6 is.reverse vs.reverse ρ,σ₁):=e_b h1 (if_pos h2)
theorem e_AsgT {is:List Nat} (h1:xs ρ σ = some (vs,σ₁)) (h2:vs.length≤sizeLine∧vs.length=is.length):Za is xs ρ σ = some (.next,D6 is vs ρ,σ₁):=e_b h1 (if_pos h2)
theorem e_AsgG {is:List Nat}{l:List AV} (h1:x ρ σ = some (a,σ₁)) (h2:Vd σ₁ a=some l) (h3:l.length=is.length):WI is x ρ σ = some (.next,D6 is l ρ,σ₁):=e_b h1 (e_b h2 (if_pos h3))
theorem e_FzV {i:Nat}{d:D} (h1:ρ[i]? = some (some a)) (h2:frz a σ = some (d,σ₁)) (h3:A (ρ.set i (some (.d d))) σ₁ = R):Mi i A ρ σ = R:=by unfold Mi;simp only [h1];exact e_b h2 h3
theorem A3O (h1:xa ρ σ = some (.d (.bool true),σ₁)) (h2:xb ρ σ₁ = S):N8 xa xb ρ σ = S:=e_b h1 h2
theorem K8 {n k:Nat}{args:List AV}{w:Option (AV×Sto)}(h:args.length=n) (h1:A (args.map some++List.replicate k none) σ = some p) (h2:Ye p=w):By n k A args σ = w:=by unfold By;rw [if_pos h];exact e_b h1 h2
theorem e_Fz {d:D} (h1:x ρ σ = some (a,σ₁)) (h2:frz a σ₁ = some (d,σ₂)):xFz x ρ σ = some (.d d,σ₂):=e_b h1 (e_b h2 rfl)
theorem Tk {n:Nat}{l:List AV}(h:σ[n]? = some (.list l)):A0Z σ (.loc n)=some (n,l):=by
  show (XL σ[n]?).bind _=_;rw [h];rfl
theorem e_app {n:Nat}{l:List AV}(h:σ[n]? = some (.list l)) (h2:l.length≤sizeLine){l':List AV} (h3:l++[v]=l'):Hx [.loc n,v] σ = some (.d .none,σ.set n (.list l')):=by
  subst h3;exact e_b (Tk h) (if_pos h2)
theorem Sx {n:Nat} {l l2:List AV}(h:σ[n]? = some (.list l)) (h1:AU σ v=some l2) (h2:l.length+l2.length≤sizeLine){l':List AV} (h3:l++l2=l'):Hq [.loc n,v] σ = some (.d .none,σ.set n (.list l')):=by
  subst h3;exact e_b (Tk h) (e_b h1 (if_pos h2))
theorem e_pop {n:Nat}{l:List AV}(h:σ[n]? = some (.list l)) (h2:l.length≤sizeLine) (h1:l.getLast? = some v){l':List AV} (h3:l.dropLast=l'):Yn [.loc n] σ = some (v,σ.set n (.list l')):=by
  subst h3;exact e_b (Tk h) ((if_pos h2).trans (e_b h1 rfl))
theorem e_len {n:Nat}{l:List AV}(h:σ[n]? = some (.list l)) (h2:l.length≤sizeLine):BW [.loc n] σ = some (.d (.int (l.length:Int)),σ):=by
  show ((AU σ (.loc n)).map List.length).bind _=_;rw [Q3 h];exact if_pos h2
end
open Lean in
 def zsT (b:Bool) (t:Syntax):Syntax:=zsP (if b then "apply 0 .apply/2" else "exact 0 .exact/2") [t]
open Lean in
 def zsN (b:Bool) (s:String):List Syntax:=zsV (fun x=>[zsT b (zsI x)]) (s.splitOn " ")
open Lean in
 def zsW (a:List Syntax):Syntax:=zsP "with_reducible 0 null/1 .tacticSeq1Indented/1 .tacticSeq/1 .withReducible/2" [zsF a]
open Lean in
 def zsH (a b:List Syntax):Syntax:=zsP "repeat' 0 null/1 .tacticSeq1Indented/1 .tacticSeq/1 .repeat'/2" [zsF (zsW a::b++[zsP "rfl .tacticRfl/1" []])]
open Lean in
local macro_rules (kind:=Lean.Parser.Tactic.tacticErw___)
  | s =>
    let l (b:Bool):=zsV (fun r=>if (r[0].getNumArgs == 0) == b then [zsT (zsK r[1] == "explicit") r[1]] else []) s[2][1].getSepArgs.toList
    return zsH (l true++zsN true "VG e_kn e_Case e_ct e_cf e_Or e_of e_Tr A1k A4Q e_StN YH IN Xo A1l e_mU e_mL e_Attr e_ListF e_Tup e_List e_AsgG A1m e_SetA e_AsgS e_Fz e_app e_len" ++ zsN false "e_kr e_ot A3P e_Next e_D Q2") (zsQ [zsW (zsN true "HI"),zsP "rfl .tacticRfl/1" []]::l false)
open Lean in
local macro_rules (kind:=Lean.Parser.Tactic.solveByElim)
  | s=>return zsH (zsN false "aNil aNext aTrue aFalse aNo aNoS amN aDict0 afGet afAdd afMod afDiv afSub afMul afPow bLen bApp bTuple bStr bJoin bExt bSplit bIndex bGet bAbs bPop bOrd bMin bMax bList bInt bChr bBytes bBaApp bBa bAny bAll" ++ zsN true "aVar aD gaName gaTup afCmp aCons aBin aSeq aCall aAttr aRet aTr aTup aMt aCase aLet aFz aListF amtU amC aSetA aIt aSt amtL aList aFor aComp aSl aOr2 aIf aNeg amtS aAsgS aFzV aCh aAnd2 aRange aBand aRepl amtD amtB aAsgG aEnum A8y aAsgT" ++ zsV (fun t=>[zsT false t[0]]) s[4][0][1].getSepArgs.toList) []
noncomputable abbrev Ha:D:=(D.int 2)
noncomputable abbrev TH:D:=(D.int 16)
noncomputable abbrev FA:D:=(D.int 17)
noncomputable abbrev Ir:D:=(D.dict [(26,(D.tup [(D.int 1),(D.int 0)])),(27,(D.tup [(D.int 3),(D.int 1)])),(28,(D.tup [(D.int 3),(D.int 1)])),(32,(D.tup [(D.int 0),(D.int 1)])),(33,(D.tup [(D.int 1),(D.int 0)])),(34,(D.tup [(D.int 1),(D.int 1)])),(35,(D.tup [(D.int 0),(D.int 1)])),(36,(D.tup [(D.int 1),(D.int 0)])),(37,(D.tup [(D.int 1),(D.int 1)])),(38,(D.tup [(D.int 2),(D.int 0)])),(64527,(D.tup [(D.int 2),(D.int 1)])),(64529,(D.tup [(D.int 3),(D.int 0)])),(208,(D.tup [(D.int 0),(D.int 1)])),(209,(D.tup [(D.int 1),(D.int 1)]))])
noncomputable abbrev FL:D:=(D.int 5)
noncomputable abbrev M0:D:=(D.int 11)
noncomputable abbrev JZ:D:=(D.dict [(1,(D.tup [(D.tup []),(D.tup [])])),(63,(D.tup [(D.tup []),(D.tup [(D.int (-1))])])),(64,(D.tup [(D.tup [(D.int (-1))]),(D.tup [(D.int (-1))])])),(65,(D.tup [(D.tup []),(D.tup [(D.int (-1))])])),(66,(D.tup [(D.tup []),(D.tup [(D.int (-2))])])),(210,(D.tup [(D.tup []),(D.tup [(D.int (-16))])])),(64520,(D.tup [(D.tup [(D.int (-1)),(D.int (-1)),(D.int (-1))]),(D.tup [])])),(64521,(D.tup [(D.tup []),(D.tup [])])),(64522,(D.tup [(D.tup [(D.int (-1)),(D.int (-1)),(D.int (-1))]),(D.tup [])])),(64523,(D.tup [(D.tup [(D.int (-1)),(D.int (-1)),(D.int (-1))]),(D.tup [])])),(64524,(D.tup [(D.tup [(D.int (-1)),(D.int (-1)),(D.int (-1))]),(D.tup [])])),(64525,(D.tup [(D.tup []),(D.tup [])])),(64526,(D.tup [(D.tup [(D.int (-1)),(D.int (-1)),(D.int (-1))]),(D.tup [])])),(64528,(D.tup [(D.tup []),(D.tup [(D.int (-1))])]))])
noncomputable abbrev K0:D:=(D.dict [(0,(D.str s!"none")),(1,(D.str s!"none")),(2,(D.str s!"block")),(3,(D.str s!"block")),(4,(D.str s!"block")),(5,(D.str s!"none")),(11,(D.str s!"none")),(12,(D.str s!"label")),(13,(D.str s!"label")),(14,(D.str s!"labels")),(15,(D.str s!"none")),(16,(D.str s!"func")),(17,(D.str s!"indirect")),(18,(D.str s!"func")),(19,(D.str s!"indirect")),(26,(D.str s!"none")),(27,(D.str s!"none")),(28,(D.str s!"kinds")),(32,(D.str s!"local")),(33,(D.str s!"local")),(34,(D.str s!"local")),(35,(D.str s!"global")),(36,(D.str s!"global")),(37,(D.str s!"table")),(38,(D.str s!"table")),(63,(D.str s!"memory")),(64,(D.str s!"memory")),(65,(D.str s!"i32")),(66,(D.str s!"i64")),(208,(D.str s!"refkind")),(209,(D.str s!"none")),(210,(D.str s!"func")),(64520,(D.str s!"memory_init")),(64521,(D.str s!"data")),(64522,(D.str s!"two_memories")),(64523,(D.str s!"memory")),(64524,(D.str s!"table_init")),(64525,(D.str s!"elem")),(64526,(D.str s!"table_copy")),(64527,(D.str s!"table")),(64528,(D.str s!"table")),(64529,(D.str s!"table"))])
noncomputable abbrev BU:D:=(D.int 0)
noncomputable abbrev Zx:D:=.val (.ref 744)
noncomputable abbrev A3K:D:=.val (.ref 220)
noncomputable abbrev I6:D:=(D.dict [((-16),(D.str s!"func")),((-17),(D.str s!"extern"))])
noncomputable abbrev PN:D:=(D.int (-1))
noncomputable abbrev PO:D:=(D.int 4)
noncomputable abbrev Zy:D:=.val (.ref 192)
noncomputable abbrev I7:D:=(D.dict [((-1),(D.str s!"i32")),((-2),(D.str s!"i64")),((-16),(D.str s!"funcref")),((-17),(D.str s!"externref"))])
noncomputable abbrev DU:D:=(D.dict [(40,(D.tup [(D.int (-1)),(D.int 4),(D.int 0)])),(41,(D.tup [(D.int (-2)),(D.int 8),(D.int 0)])),(44,(D.tup [(D.int (-1)),(D.int 1),(D.int 1)])),(45,(D.tup [(D.int (-1)),(D.int 1),(D.int 0)])),(46,(D.tup [(D.int (-1)),(D.int 2),(D.int 1)])),(47,(D.tup [(D.int (-1)),(D.int 2),(D.int 0)])),(48,(D.tup [(D.int (-2)),(D.int 1),(D.int 1)])),(49,(D.tup [(D.int (-2)),(D.int 1),(D.int 0)])),(50,(D.tup [(D.int (-2)),(D.int 2),(D.int 1)])),(51,(D.tup [(D.int (-2)),(D.int 2),(D.int 0)])),(52,(D.tup [(D.int (-2)),(D.int 4),(D.int 1)])),(53,(D.tup [(D.int (-2)),(D.int 4),(D.int 0)]))])
noncomputable abbrev IL:D:=(D.int 3)
noncomputable abbrev Nu:D:=(D.int 2)
noncomputable abbrev Hb:D:=(D.str s!"(module")
noncomputable abbrev Zz:D:=.val (.ref 443)
noncomputable abbrev K1:D:=(D.dict [(32,(D.str s!"local.get")),(65,(D.str s!"i32.const")),(33,(D.str s!"local.set")),(34,(D.str s!"local.tee")),(66,(D.str s!"i64.const")),(2,(D.str s!"block")),(3,(D.str s!"loop")),(4,(D.str s!"if")),(5,(D.str s!"else")),(11,(D.str s!"end")),(12,(D.str s!"br")),(13,(D.str s!"br_if")),(14,(D.str s!"br_table")),(15,(D.str s!"return")),(16,(D.str s!"call")),(17,(D.str s!"call_indirect")),(26,(D.str s!"drop")),(27,(D.str s!"select")),(28,(D.str s!"select")),(0,(D.str s!"unreachable")),(1,(D.str s!"nop")),(18,(D.str s!"return_call")),(19,(D.str s!"return_call_indirect")),(35,(D.str s!"global.get")),(36,(D.str s!"global.set")),(37,(D.str s!"table.get")),(38,(D.str s!"table.set")),(40,(D.str s!"i32.load")),(41,(D.str s!"i64.load")),(44,(D.str s!"i32.load8_s")),(45,(D.str s!"i32.load8_u")),(46,(D.str s!"i32.load16_s")),(47,(D.str s!"i32.load16_u")),(48,(D.str s!"i64.load8_s")),(49,(D.str s!"i64.load8_u")),(50,(D.str s!"i64.load16_s")),(51,(D.str s!"i64.load16_u")),(52,(D.str s!"i64.load32_s")),(53,(D.str s!"i64.load32_u")),(54,(D.str s!"i32.store")),(55,(D.str s!"i64.store")),(58,(D.str s!"i32.store8")),(59,(D.str s!"i32.store16")),(60,(D.str s!"i64.store8")),(61,(D.str s!"i64.store16")),(62,(D.str s!"i64.store32")),(63,(D.str s!"memory.size")),(64,(D.str s!"memory.grow")),(167,(D.str s!"i32.wrap_i64")),(172,(D.str s!"i64.extend_i32_s")),(173,(D.str s!"i64.extend_i32_u")),(192,(D.str s!"i32.extend8_s")),(193,(D.str s!"i32.extend16_s")),(194,(D.str s!"i64.extend8_s")),(195,(D.str s!"i64.extend16_s")),(196,(D.str s!"i64.extend32_s")),(208,(D.str s!"ref.null")),(209,(D.str s!"ref.is_null")),(210,(D.str s!"ref.func")),(64520,(D.str s!"memory.init")),(64521,(D.str s!"data.drop")),(64522,(D.str s!"memory.copy")),(64523,(D.str s!"memory.fill")),(64524,(D.str s!"table.init")),(64525,(D.str s!"elem.drop")),(64526,(D.str s!"table.copy")),(64527,(D.str s!"table.grow")),(64528,(D.str s!"table.size")),(64529,(D.str s!"table.fill"))])
noncomputable abbrev M1:D:=(D.tup [(D.tup [(D.int 69),(D.int 69),(D.tup [(D.int (-1))]),(D.tup [(D.int (-1))])]),(D.tup [(D.int 70),(D.int 79),(D.tup [(D.int (-1)),(D.int (-1))]),(D.tup [(D.int (-1))])]),(D.tup [(D.int 80),(D.int 80),(D.tup [(D.int (-2))]),(D.tup [(D.int (-1))])]),(D.tup [(D.int 81),(D.int 90),(D.tup [(D.int (-2)),(D.int (-2))]),(D.tup [(D.int (-1))])]),(D.tup [(D.int 103),(D.int 105),(D.tup [(D.int (-1))]),(D.tup [(D.int (-1))])]),(D.tup [(D.int 106),(D.int 120),(D.tup [(D.int (-1)),(D.int (-1))]),(D.tup [(D.int (-1))])]),(D.tup [(D.int 121),(D.int 123),(D.tup [(D.int (-2))]),(D.tup [(D.int (-2))])]),(D.tup [(D.int 124),(D.int 138),(D.tup [(D.int (-2)),(D.int (-2))]),(D.tup [(D.int (-2))])]),(D.tup [(D.int 167),(D.int 167),(D.tup [(D.int (-2))]),(D.tup [(D.int (-1))])]),(D.tup [(D.int 172),(D.int 173),(D.tup [(D.int (-1))]),(D.tup [(D.int (-2))])]),(D.tup [(D.int 192),(D.int 193),(D.tup [(D.int (-1))]),(D.tup [(D.int (-1))])]),(D.tup [(D.int 194),(D.int 196),(D.tup [(D.int (-2))]),(D.tup [(D.int (-2))])])])
noncomputable abbrev Xe:D:=.val (.ref 864)
noncomputable abbrev TJ:D:=(D.tup [(D.tup [(D.int 69),(D.str s!"i32."),(D.tup [(D.str s!"eqz"),(D.str s!"eq"),(D.str s!"ne"),(D.str s!"lt_s"),(D.str s!"lt_u"),(D.str s!"gt_s"),(D.str s!"gt_u"),(D.str s!"le_s"),(D.str s!"le_u"),(D.str s!"ge_s"),(D.str s!"ge_u")])]),(D.tup [(D.int 80),(D.str s!"i64."),(D.tup [(D.str s!"eqz"),(D.str s!"eq"),(D.str s!"ne"),(D.str s!"lt_s"),(D.str s!"lt_u"),(D.str s!"gt_s"),(D.str s!"gt_u"),(D.str s!"le_s"),(D.str s!"le_u"),(D.str s!"ge_s"),(D.str s!"ge_u")])]),(D.tup [(D.int 103),(D.str s!"i32."),(D.tup [(D.str s!"clz"),(D.str s!"ctz"),(D.str s!"popcnt"),(D.str s!"add"),(D.str s!"sub"),(D.str s!"mul"),(D.str s!"div_s"),(D.str s!"div_u"),(D.str s!"rem_s"),(D.str s!"rem_u"),(D.str s!"and"),(D.str s!"or"),(D.str s!"xor"),(D.str s!"shl"),(D.str s!"shr_s"),(D.str s!"shr_u"),(D.str s!"rotl"),(D.str s!"rotr")])]),(D.tup [(D.int 121),(D.str s!"i64."),(D.tup [(D.str s!"clz"),(D.str s!"ctz"),(D.str s!"popcnt"),(D.str s!"add"),(D.str s!"sub"),(D.str s!"mul"),(D.str s!"div_s"),(D.str s!"div_u"),(D.str s!"rem_s"),(D.str s!"rem_u"),(D.str s!"and"),(D.str s!"or"),(D.str s!"xor"),(D.str s!"shl"),(D.str s!"shr_s"),(D.str s!"shr_u"),(D.str s!"rotl"),(D.str s!"rotr")])])])
noncomputable abbrev Eb:D:=(D.str s!"  ")
noncomputable abbrev Ec:D:=(D.dict [(54,(D.tup [(D.int (-1)),(D.int 4)])),(55,(D.tup [(D.int (-2)),(D.int 8)])),(58,(D.tup [(D.int (-1)),(D.int 1)])),(59,(D.tup [(D.int (-1)),(D.int 2)])),(60,(D.tup [(D.int (-2)),(D.int 1)])),(61,(D.tup [(D.int (-2)),(D.int 2)])),(62,(D.tup [(D.int (-2)),(D.int 4)]))])
noncomputable abbrev PP:D:=(D.int 1)
noncomputable abbrev A3L:D:=.val (.ref 622)
noncomputable abbrev PR:D:=.val (.ref 962)
noncomputable abbrev RB:D:=.val (.ref 943)
noncomputable abbrev Vs:D:=.val (.ref 957)
noncomputable abbrev RC:D:=.val (.ref 950)
noncomputable abbrev BR:D:=(D.tup [(D.tup [(D.tup []),(D.tup [])]),(D.tup [(D.tup [(D.int (-1))]),(D.tup [(D.int (-1))])]),(D.tup [(D.tup [(D.int (-1)),(D.int (-1))]),(D.tup [])]),(D.tup [(D.tup [(D.int (-1)),(D.int (-2)),(D.int (-1))]),(D.tup [(D.int (-1)),(D.int (-2))])])])
noncomputable abbrev Vt:D:=.val (.ref 936)
noncomputable abbrev K2:D:=(D.tup [(D.tup [(D.tup [(D.int 0),(D.int 1)]),(D.tup [(D.int 65),(D.int 66),(D.int 32),(D.int 35),(D.int 208),(D.int 210),(D.int 63),(D.int 64528)])]),(D.tup [(D.tup [(D.int 1),(D.int 0)]),(D.tup [(D.int 33),(D.int 36),(D.int 26)])]),(D.tup [(D.tup [(D.int 2),(D.int 0)]),(D.tup [(D.int 38),(D.int 54)])]),(D.tup [(D.tup [(D.int 1),(D.int 1)]),(D.tup [(D.int 34),(D.int 37),(D.int 209),(D.int 40),(D.int 64),(D.int 69),(D.int 172)])]),(D.tup [(D.tup [(D.int 2),(D.int 1)]),(D.tup [(D.int 106),(D.int 124),(D.int 64527)])]),(D.tup [(D.tup [(D.int 3),(D.int 1)]),(D.tup [(D.int 27),(D.int 28)])]),(D.tup [(D.tup [(D.int 3),(D.int 0)]),(D.tup [(D.int 64520),(D.int 64522),(D.int 64523),(D.int 64524),(D.int 64526),(D.int 64529)])]),(D.tup [(D.tup [(D.int 0),(D.int 0)]),(D.tup [(D.int 64521),(D.int 64525),(D.int 1)])])])
noncomputable abbrev TK:D:=.val (.ref 671)
noncomputable abbrev TL:D:=.val (.ref 678)
noncomputable abbrev PQ:D:=.val (.ref 891)
noncomputable abbrev Xf:D:=.val (.ref 154)
noncomputable abbrev ZA:D:=.val (.ref 556)
noncomputable abbrev Lf:D:=.val (.ref 652)
noncomputable abbrev TM:D:=.val (.ref 31)
noncomputable abbrev Rz:D:=.val (.ref 36)
noncomputable abbrev TN:D:=.val (.ref 563)
noncomputable abbrev PS:D:=.val (.ref 640)
noncomputable abbrev Xg:D:=.val (.ref 522)
noncomputable abbrev TO:D:=.val (.ref 551)
noncomputable abbrev Xh:D:=.val (.ref 168)
noncomputable abbrev PT:D:=.val (.ref 147)
noncomputable abbrev Vu:D:=.val (.ref 452)
noncomputable abbrev K3:D:=.val (.ref 659)
noncomputable abbrev Ov:D:=.val (.ref 883)
noncomputable abbrev Vv:D:=.val (.ref 161)
noncomputable abbrev PU:D:=.val (.ref 544)
noncomputable abbrev RD:D:=.val (.ref 633)
noncomputable abbrev Xi:D:=.val (.ref 503)
noncomputable abbrev Vw:D:=.val (.ref 645)
noncomputable def HS:TS:=(As (Bi (tMt (mtD A3G) (tD I7) (Ac (Ag 0) (Ac (tD (.str s!"unknown")) Ap)))) At)
noncomputable def JY:CS:=Bt (AT 1 0 HS)
noncomputable def GT:TS:=(As (Bi (tMt (mtS LC) (tD (.str s!" ")) (Ac (tFz (Eg (tIt (Ag 0)) [] Eh (AB (Ac (Ag 0) Ap) JY))) Ap))) At)
noncomputable def IH:CS:=Bt (AT 1 0 GT)
noncomputable def FW:TS:=(As (Gw (tIt (tD M1)) (RM [1,2,3,4]) (As (Bb (tTr (tCh (B7 .LtE) (B7 .LtE) (Ag 1) (Ag 0) (Ag 2))) (As (Bi (Bp (Ac (Ag 3) (Ac (Ag 4) Ap)))) At) At) At)) (As (Bi (tD .none)) At))
noncomputable def FJ:CS:=Bt (AT 1 4 FW)
noncomputable def KY:TS:=(As (Bb (tTr (Aq (B7 .In) (Ag 0) (tD K0))) (As (Bi (Aq Bf (tD K0) (Ag 0))) At) At) (As (Bb (IV (tTr (Aq (B7 .In) (Ag 0) (tD DU))) (IV (tTr (Aq (B7 .In) (Ag 0) (tD Ec))) Ia)) (As (Bi (tD (.str s!"memarg"))) At) At) (As (Bi (tIf (tTr (Aq (B7 .Is) (AB (Ac (Ag 0) Ap) FJ) (tD .none))) (tD .none) (tD (.str s!"none")))) At)))
noncomputable def Nn:CS:=Bt (AT 1 0 KY)
noncomputable def IZ:TS:=(As (Bb (tTr (Aq (B7 .In) (Ag 0) (tD JZ))) (As (Bi (Aq Bf (tD JZ) (Ag 0))) At) At) (As (Bb (tTr (Aq (B7 .In) (Ag 0) (tD DU))) (As (Bi (Bp (Ac (Bp (Ac (tD PN) Ap)) (Ac (Bp (Ac (Aq Bf (Aq Bf (tD DU) (Ag 0)) (tD (.int 0))) Ap)) Ap)))) At) At) (As (Bb (tTr (Aq (B7 .In) (Ag 0) (tD Ec))) (As (Bi (Bp (Ac (Bp (Ac (tD PN) (Ac (Aq Bf (Aq Bf (tD Ec) (Ag 0)) (tD (.int 0))) Ap))) (Ac (Bp Ap) Ap)))) At) At) (As (Bi (AB (Ac (Ag 0) Ap) FJ)) At))))
noncomputable def LY:CS:=Bt (AT 1 0 IZ)
noncomputable def L0:TS:=(As (BY 1 (tIf (tTr (Aq (B7 .In) (Ag 0) (tD DU))) (Aq Bf (Aq Bf (tD DU) (Ag 0)) (tD (.int 1))) (Aq Bf (Aq Bf (tD Ec) (Ag 0)) (tD (.int 1))))) (As (Bi (N4 [(PyData.int 1,PyData.int 0),(PyData.int 2,PyData.int 1),(PyData.int 4,PyData.int 2),(PyData.int 8,PyData.int 3)] (Ag 1))) At))
noncomputable def Np:CS:=Bt (AT 1 1 L0)
noncomputable def Fi:TS:=(As (Bi (Bp (Ac (AM [192] s!"place" (Ag 0)) (Ac (AM [192] s!"name" (Ag 0)) (Ac (AM [192] s!"sort" (Ag 0)) (Ac (AM [192] s!"about" (Ag 0)) Ap)))))) At)
noncomputable def H6:CS:=Bt (AT 1 0 Fi)
noncomputable def GR:TS:=(As (Bi (Bp (Ac (AM [220] s!"kind" (Ag 0)) (Ac (AB (Ac (AM [220] s!"locals" (Ag 0)) Ap) I0) (Ac (AB (Ac (AM [220] s!"body" (Ag 0)) Ap) I0) Ap))))) At)
noncomputable def IF:CS:=Bt (AT 1 0 GR)
noncomputable def IY:TS:=(As (Bi (AB (Ac (tFz (Eg (tIt (Ag 0)) [] Eh (tMt (mtU s!"plain" (mC 192 H6 (mC 220 IF mN))) (Ag 0) Ap))) Ap) I0)) At)
noncomputable def DS:CS:=Bt (AT 1 0 IY)
noncomputable def L1:TS:=(As (BY 1 (AB Ap cBa)) (As (Gw (tIt (Ag 0)) (Hc 2) (As (BY 3 (AB (Ac (Ag 2) Ap) cOrd)) (As (Bb (tTr (tCh (B7 .LtE) (B7 .Lt) (tD (.int 55296)) (Ag 3) (tD (.int 57344)))) (As Gb At) At) (As (Bb (tTr (Aq (B7 .Lt) (Ag 3) (tD (.int 128)))) (As (tSt (tMt (mtB Tz) (Ag 1) (Ac (Ag 3) Ap))) At) (As (Bb (tTr (Aq (B7 .Lt) (Ag 3) (tD (.int 2048)))) (As Gb At) (As (Bb (tTr (Aq (B7 .Lt) (Ag 3) (tD (.int 65536)))) (As Gb At) (As Gb At)) At)) At)) At)))) (As (Bi (AB (Ac (Ag 1) Ap) Xa)) At)))
noncomputable def Nq:CS:=Bt (AT 1 3 L1)
noncomputable def KZ:TS:=(As (Bb (tTr (Aq (B7 .In) (Ag 0) (tD K1))) (As (Bi (Aq Bf (tD K1) (Ag 0))) At) At) (As (Gw (tIt (tD TJ)) (RM [1,2,3]) (As (Bb (tTr (tCh (B7 .LtE) (B7 .Lt) (Ag 1) (Ag 0) (Aq Bl (Ag 1) (AB (Ac (Ag 3) Ap) Ea)))) (As (Bi (Aq Bl (Ag 2) (Aq Bf (Ag 3) (Aq VH (Ag 0) (Ag 1))))) At) At) At)) (As (Bi (tD .none)) At)))
noncomputable def No:CS:=Bt (AT 1 3 KZ)
noncomputable def FX:TS:=(As (BY 1 (Dw Ap)) (As (Gw (tIt (Ag 0)) (Hc 2) (As (Bb (QK (tTr (tCh (B7 .LtE) (B7 .Lt) (tD (.int 32)) (Ag 2) (tD (.int 127)))) (QK (tTr (Aq (B7 .NotIn) (Ag 2) (Bp (Ac (tD (.int 34)) (Ac (tD (.int 92)) Ap))))) Eh)) (As (tSt (tMt (mtL Nm) (Ag 1) (Ac (AB (Ac (Ag 2) Ap) cChr) Ap))) At) (As Gb At)) At)) (As (Bi (Aq Bl (Aq Bl (tD (.str (Str.ofString "\""))) (tMt (mtS LC) (tD (.str s!"")) (Ac (Ag 1) Ap))) (tD (.str (Str.ofString "\""))))) At)))
noncomputable def I5:CS:=Bt (AT 1 2 FX)
noncomputable def HU:TS:=(As (Bi (AB (Ac (AB (Ac (Ag 0) Ap) Nq) Ap) I5)) At)
noncomputable def HH:CS:=Bt (AT 1 0 HU)
noncomputable def N5:TS:=(As (BY 2 (Dw Ap)) (As (Gw (Mh (Ag 1)) (Hc 3) (As (BY 4 (tMt (mtD A3G) (Ag 0) (Ac (Ag 3) (Ac (tD (.str s!"")) Ap)))) (As (BY 5 (SY (Aq (B7 .NotEq) (Ag 4) (tD (.str s!""))) (SY tNo tNo))) (As (tSt (tMt (mtL Nm) (Ag 2) (Ac (tIf (tTr (Ag 5)) tNo (tD (.str s!""))) Ap))) At)))) (As (Bi (tFz (Ag 2))) At)))
noncomputable def My:CS:=Bt (AT 2 4 N5)
noncomputable def HT:TS:=(As (Bi (tIf (tTr (Aq (B7 .Eq) (AB (Ac (Ag 1) Ap) Ea) (tD (.int 0)))) (tD (.str s!"")) (Aq Bl (Aq Bl (Aq Bl (Aq Bl (tD (.str s!" (")) (Ag 0)) (tD (.str s!" "))) (AB (Ac (Ag 1) Ap) IH)) (tD (.str s!")"))))) At)
noncomputable def EW:CS:=Bt (AT 2 0 HT)
noncomputable def GW:TS:=(As (Bb (QK (tTr (Aq (B7 .Lt) (Ag 1) (AB (Ac (Ag 0) Ap) Ea))) (QK (tTr (Aq (B7 .NotEq) (Aq Bf (Ag 0) (Ag 1)) (tD (.str s!"")))) Eh)) (As (Bi (Aq Bf (Ag 0) (Ag 1))) At) At) (As (Bi (AB (Ac (Ag 1) Ap) Ru)) At))
noncomputable def GM:CS:=Bt (AT 2 0 GW)
noncomputable def FV:TS:=(As (BY 3 (tD (.str s!""))) (As (Bb (tTr (Aq (B7 .NotEq) (Ag 2) (tD (.int 0)))) (As (BY 3 (Aq Bl (tD (.str s!" offset=")) (AB (Ac (Ag 2) Ap) Ru))) At) At) (As (Bb (tTr (Aq (B7 .NotEq) (Ag 1) (AB (Ac (Ag 0) Ap) Np))) (As (BY 3 (Aq Bl (Aq Bl (Ag 3) (tD (.str s!" align="))) (AB (Ac (Aq fPow (tD (.int 2)) (Ag 1)) Ap) Ru))) At) At) (As (Bi (Ag 3)) At))))
noncomputable def I4:CS:=Bt (AT 3 1 FV)
noncomputable def J0:TS:=(As (Bi (tMt (mtS LC) (tD (.str s!"")) (Ac (tFz (Eg (tIt (Ag 0)) [] Eh (Aq Bl (tD (.str s!" ")) (AB (Ac (Ag 0) Ap) Ru)))) Ap))) At)
noncomputable def IK:CS:=Bt (AT 1 0 J0)
noncomputable def HO:TS:=(As (Bi (AB (Ac (AM [622] s!"func_ids" (Ag 0)) (Ac (Ag 1) Ap)) GM)) At)
noncomputable def JW:CS:=Bt (AT 2 0 HO)
noncomputable def GS:TS:=(As (Bi (AB (Ac (AM [622] s!"local_ids" (Ag 0)) (Ac (Ag 1) Ap)) GM)) At)
noncomputable def IG:CS:=Bt (AT 2 0 GS)
noncomputable def Dr:TS:=(As (HM [2,3] (Ac (Aq Bf (Ag 1) (tD (.int 0))) (Ac (tSl true (Ag 1) (tD (.int 1)) (tD .none)) Ap))) (As (HM [4,5] (Ac (AB (Ac (Ag 2) Ap) No) (Ac (AB (Ac (Ag 2) Ap) Nn) Ap))) (As (Bb (tTr (Aq (B7 .Eq) (Ag 5) (tD (.str s!"block")))) (As Gb At) At) (As (Bb (tTr (Aq (B7 .Eq) (Ag 5) (tD (.str s!"func")))) (As (Bi (Aq Bl (Aq Bl (Ag 4) (tD (.str s!" "))) (tMt (mtU s!"func" (mC 622 JW mN)) (Ag 0) (Ac (Aq Bf (Ag 3) (tD (.int 0))) Ap)))) At) At) (As (Bb (tTr (Aq (B7 .Eq) (Ag 5) (tD (.str s!"local")))) (As (Bi (Aq Bl (Aq Bl (Ag 4) (tD (.str s!" "))) (tMt (mtU s!"local" (mC 622 IG mN)) (Ag 0) (Ac (Aq Bf (Ag 3) (tD (.int 0))) Ap)))) At) At) (As (Bb (tTr (Aq (B7 .Eq) (Ag 5) (tD (.str s!"indirect")))) (As (Bi (Aq Bl (Aq Bl (Aq Bl (Aq Bl (Aq Bl (Ag 4) (tD (.str s!" "))) (AB (Ac (Aq Bf (Ag 3) (tD (.int 1))) Ap) Ru)) (tD (.str s!" (type "))) (AB (Ac (Aq Bf (Ag 3) (tD (.int 0))) Ap) Ru)) (tD (.str s!")")))) At) At) (As (Bb (tTr (Aq (B7 .Eq) (Ag 5) (tD (.str s!"memarg")))) (As (Bi (Aq Bl (Ag 4) (AB (Ac (Ag 2) (Ac (Aq Bf (Ag 3) (tD (.int 0))) (Ac (Aq Bf (Ag 3) (tD (.int 1))) Ap))) I4))) At) At) (As (Bb (tTr (Aq (B7 .Eq) (Ag 5) (tD (.str s!"refkind")))) (As (Bi (Aq Bl (Aq Bl (Ag 4) (tD (.str s!" "))) (Aq Bf (tD I6) (Aq Bf (Ag 3) (tD (.int 0)))))) At) At) (As (Bb (tTr (Aq (B7 .Eq) (Ag 5) (tD (.str s!"kinds")))) (As (Bi (Aq Bl (Ag 4) (tIf (tTr (Aq (B7 .Eq) (AB (Ac (Ag 3) Ap) Ea) (tD (.int 0)))) (tD (.str s!" (result)")) (AB (Ac (tD (.str s!"result")) (Ac (Ag 3) Ap)) EW)))) At) At) (As (Bb (tTr (Aq (B7 .Eq) (Ag 5) (tD (.str s!"table_init")))) (As (Bi (Aq Bl (Ag 4) (AB (Ac (Bk (Ac (Aq Bf (Ag 3) (tD (.int 1))) (Ac (Aq Bf (Ag 3) (tD (.int 0))) Ap))) Ap) IK))) At) At) (As (Bi (Aq Bl (Ag 4) (AB (Ac (Ag 3) Ap) IK))) At)))))))))))
noncomputable def Cy:CS:=Bt (AT 2 4 Dr)
noncomputable def HP:TS:=(As (C1 [622] s!"func_ids" (Ag 1) (Ag 0)) (As (C1 [622] s!"local_ids" (Ag 2) (Ag 0)) At))
noncomputable def Ob:CS:=AT 3 0 HP
noncomputable def PG:CS:=Vo 622 Ob
noncomputable def Dc:TS:=(As (Bi (AB (Ac (tFz (AB (Ac (Bk Ap) (Ac (Bk Ap) Ap)) PG)) (Ac (Ag 1) Ap)) Cy)) At)
noncomputable def Ep:CS:=Bt (AT 2 0 Dc)
noncomputable def HQ:TS:=(As (BY 3 (Dw Ap)) (As (Gw (tIt (tSl true (Ag 1) (tD .none) (Mg (tD (.int 1))))) (Hc 4) (As (BY 5 (Aq Bf (Ag 4) (tD (.int 0)))) (As (Bb (tTr (Aq (B7 .In) (Ag 5) (Bp (Ac (tD FL) (Ac (tD M0) Ap))))) (As Gb At) At) (As (tSt (tMt (mtL Nm) (Ag 3) (Ac (Aq Bl (Aq A1o (tD Eb) (Ag 2)) (AB (Ac (Ag 0) (Ac (Ag 4) Ap)) Cy)) Ap))) (As (Bb (tTr (Aq (B7 .In) (Ag 5) (Bp (Ac (tD Ha) (Ac (tD IL) (Ac (tD PO) (Ac (tD FL) Ap))))))) (As Gb At) At) At))))) (As (Bi (tFz (Ag 3))) At)))
noncomputable def JX:CS:=Bt (AT 3 3 HQ)
noncomputable def EM:TS:=(As (Bi (tFz (Eg (tIt (AM [443] s!"imports" (Ag 0))) [1] (tTr (Aq (B7 .Eq) (AM [192] s!"sort" (Ag 0)) (Ag 1))) (AM [192] s!"about" (Ag 0))))) At)
noncomputable def EK:CS:=Bt (AT 2 0 EM)
noncomputable def D7:TS:=(As (Bi (tFz (Aq Bl (tMt (mtU s!"abouts" (mC 443 EK mN)) (Ag 0) (Ac (tD BU) Ap)) (tFz (Eg (tIt (AM [443] s!"funcs" (Ag 0))) [] Eh (AM [220] s!"kind" (Ag 0))))))) At)
noncomputable def Ek:CS:=Bt (AT 1 0 D7)
noncomputable def HR:TS:=(As (BY 2 (Aq Bf (Ag 1) (tD (.int 0)))) (As (Bb (tTr (Aq (B7 .In) (Ag 2) (tD Ir))) (As (Bi (Aq Bf (tD Ir) (Ag 2))) At) At) (As (Bb (tTr (Aq (B7 .Eq) (Ag 2) (tD TH))) (As (BY 3 (tMt (mtU s!"func_kinds" (mC 443 Ek mN)) (Ag 0) Ap)) (As (Bb (IV (tTr (Aq (B7 .GtE) (Aq Bf (Ag 1) (tD (.int 1))) (AB (Ac (Ag 3) Ap) Ea))) (IV (tTr (Aq (B7 .GtE) (Aq Bf (Ag 3) (Aq Bf (Ag 1) (tD (.int 1)))) (AB (Ac (AM [443] s!"kinds" (Ag 0)) Ap) Ea))) Ia)) (As (Bi (tD .none)) At) At) (As (BY 4 (Aq Bf (AM [443] s!"kinds" (Ag 0)) (Aq Bf (Ag 3) (Aq Bf (Ag 1) (tD (.int 1)))))) (As (Bi (Bp (Ac (AB (Ac (Aq Bf (Ag 4) (tD (.int 0))) Ap) Ea) (Ac (AB (Ac (Aq Bf (Ag 4) (tD (.int 1))) Ap) Ea) Ap)))) At)))) At) (As (Bb (tTr (Aq (B7 .Eq) (Ag 2) (tD FA))) (As (Bb (tTr (Aq (B7 .GtE) (Aq Bf (Ag 1) (tD (.int 1))) (AB (Ac (AM [443] s!"kinds" (Ag 0)) Ap) Ea))) (As (Bi (tD .none)) At) At) (As (BY 4 (Aq Bf (AM [443] s!"kinds" (Ag 0)) (Aq Bf (Ag 1) (tD (.int 1))))) (As (Bi (Bp (Ac (Aq Bl (AB (Ac (Aq Bf (Ag 4) (tD (.int 0))) Ap) Ea) (tD (.int 1))) (Ac (AB (Ac (Aq Bf (Ag 4) (tD (.int 1))) Ap) Ea) Ap)))) At))) At) (As (BY 5 (AB (Ac (Ag 2) Ap) LY)) (As (Bi (tIf (tTr (Aq (B7 .Is) (Ag 5) (tD .none))) (tD .none) (Bp (Ac (AB (Ac (Aq Bf (Ag 5) (tD (.int 0))) Ap) Ea) (Ac (AB (Ac (Aq Bf (Ag 5) (tD (.int 1))) Ap) Ea) Ap))))) At))))))
noncomputable def HG:CS:=Bt (AT 2 4 HR)
noncomputable def Da:TS:=(As (BY 1 (Dw Ap)) (As (Gw (tIt (AM [443] s!"kinds" (AM [864] s!"module" (Ag 0)))) (RM [2,3]) (As (tSt (tMt (mtL Nm) (Ag 1) (Ac (Aq Bl (Aq Bl (Aq Bl (tD (.str s!"(type (func")) (AB (Ac (tD (.str s!"param")) (Ac (Ag 2) Ap)) EW)) (AB (Ac (tD (.str s!"result")) (Ac (Ag 3) Ap)) EW)) (tD (.str s!"))"))) Ap))) At)) (As (Bi (tFz (Ag 1))) At)))
noncomputable def En:CS:=Bt (AT 1 3 Da)
noncomputable def Dq:TS:=(As (Bi (tIf (tTr (Aq (B7 .NotEq) (Aq Bf (AM [864] s!"func_ids" (Ag 0)) (Ag 1)) (tD (.str s!"")))) (Aq Bl (tD (.str s!" ")) (Aq Bf (AM [864] s!"func_ids" (Ag 0)) (Ag 1))) (tD (.str s!"")))) At)
noncomputable def Dm:CS:=Bt (AT 2 0 Dq)
noncomputable def CO:TS:=(As (Bb (tTr (Aq (B7 .Eq) (AM [192] s!"sort" (Ag 1)) (tD BU))) (As (Bi (Aq Bl (Aq Bl (Aq Bl (Aq Bl (tD (.str s!"(func")) (tMt (mtU s!"id_ahead" (mC 864 Dm mN)) (Ag 0) (Ac (Ag 2) Ap))) (tD (.str s!" (type "))) (AB (Ac (AM [192] s!"about" (Ag 1)) Ap) Ru)) (tD (.str s!"))")))) At) At) (As (Bb (tTr (Aq (B7 .Eq) (AM [192] s!"sort" (Ag 1)) (tD PP))) (As Gb At) At) (As (Bb (tTr (Aq (B7 .Eq) (AM [192] s!"sort" (Ag 1)) (tD Nu))) (As Gb At) At) (As Gb At))))
noncomputable def DQ:CS:=Bt (AT 3 0 CO)
noncomputable def CF:TS:=(As (HM [1,2] (Ac (Dw Ap) (Ac (tD (.int 0)) Ap))) (As (Gw (tIt (AM [443] s!"imports" (AM [864] s!"module" (Ag 0)))) (Hc 3) (As (BY 4 (tMt (mtU s!"about_text" (mC 864 DQ mN)) (Ag 0) (Ac (Ag 3) (Ac (Ag 2) Ap)))) (As (tSt (tMt (mtL Nm) (Ag 1) (Ac (Aq Bl (Aq Bl (Aq Bl (Aq Bl (Aq Bl (Aq Bl (tD (.str (Str.ofString "(i\u006dport "))) (AB (Ac (AM [192] s!"place" (Ag 3)) Ap) HH)) (tD (.str s!" "))) (AB (Ac (AM [192] s!"name" (Ag 3)) Ap) HH)) (tD (.str s!" "))) (Ag 4)) (tD (.str s!")"))) Ap))) (As (BY 2 (Aq Bl (Ag 2) (AB (Ac (Aq (B7 .Eq) (AM [192] s!"sort" (Ag 3)) (tD BU)) Ap) cInt))) At)))) (As (Bi (tFz (Ag 1))) At)))
noncomputable def DA:CS:=Bt (AT 1 4 CF)
noncomputable def Db:TS:=(As (Bb (tTr (Aq (B7 .Is) (AM [864] s!"names" (Ag 0)) (tD .none))) (As (Bi (tFz (Aq A1o (Bk (Ac (tD (.str s!"")) Ap)) (Ag 2)))) At) At) (As Gb At))
noncomputable def Eo:CS:=Bt (AT 3 0 Db)
noncomputable def DG:TS:=(As (Bi (AB (Ac (tMt (mtU s!"abouts" (mC 443 EK mN)) (Ag 0) (Ac (Ag 1) Ap)) Ap) Ea)) At)
noncomputable def DE:CS:=Bt (AT 2 0 DG)
noncomputable def DH:TS:=(As (Bb (tTr (Aq (B7 .Lt) (AM [220] s!"kind" (Ag 1)) (AB (Ac (AM [443] s!"kinds" (AM [864] s!"module" (Ag 0))) Ap) Ea))) (As (Bi (Aq Bf (AM [443] s!"kinds" (AM [864] s!"module" (Ag 0))) (AM [220] s!"kind" (Ag 1)))) At) At) (As (Bi (Bp (Ac (Bp Ap) (Ac (Bp Ap) Ap)))) At))
noncomputable def DF:CS:=Bt (AT 2 0 DH)
noncomputable def D9:TS:=(As (BY 4 (Aq Bl (Aq Bl (Aq Bl (Aq Bl (tD (.str s!"(func")) (tMt (mtU s!"id_ahead" (mC 864 Dm mN)) (Ag 0) (Ac (Ag 1) Ap))) (tD (.str s!" (type "))) (AB (Ac (AM [220] s!"kind" (Ag 2)) Ap) Ru)) (tD (.str s!")")))) (As (Wy [5,6] (tMt (mtU s!"kind_of" (mC 864 DF mN)) (Ag 0) (Ac (Ag 2) Ap))) (As (Bb (tTr (AB (Ac (tFz (Eg (tIt (tSl true (Ag 3) (tD .none) (AB (Ac (Ag 5) Ap) Ea))) [] Eh (Aq (B7 .NotEq) (Ag 0) (tD (.str s!""))))) Ap) cAny)) (As Gb (As Gb At)) At) (As (BY 9 (tSl true (Ag 3) (AB (Ac (Ag 5) Ap) Ea) (tD .none))) (As (Bb (tTr (AB (Ac (tFz (Eg (tIt (Ag 9)) [] Eh (Aq (B7 .Eq) (Ag 0) (tD (.str s!""))))) Ap) cAll)) (As (Bi (Aq Bl (Ag 4) (AB (Ac (tD (.str s!"local")) (Ac (AM [220] s!"locals" (Ag 2)) Ap)) EW))) At) At) (As Gb (As (Bi (Ag 4)) At)))))))
noncomputable def Em:CS:=Bt (AT 4 6 D9)
noncomputable def GQ:TS:=(As (tSt (tMt (mtL Nm) (AM [744] s!"rows" (Ag 0)) (Ac (Aq Bl (Aq A1o (tD Eb) (AM [744] s!"depth" (Ag 0))) (Ag 1)) Ap))) At)
noncomputable def F9:CS:=AT 2 0 GQ
noncomputable def Fh:TS:=(As (Gw (tIt (AM [744] s!"values" (Ag 0))) (Hc 1) (As (tSt (tMt (mtU s!"row" (mC 744 F9 mN)) (Ag 0) (Ac (Ag 1) Ap))) At)) (As (C1 [744] s!"values" (Dw Ap) (Ag 0)) At))
noncomputable def DP:CS:=AT 1 1 Fh
noncomputable def EL:TS:=(As (HM [2,3] (Ac (AB (Ac (AM [744] s!"told" (Ag 0)) (Ac (Ag 1) Ap)) Cy) (Ac (AB (Ac (AM [744] s!"module" (Ag 0)) (Ac (Ag 1) Ap)) HG) Ap))) (As (Bb (IV (tTr (Aq (B7 .Is) (Ag 3) (tD .none))) (IV (tTr (Aq (B7 .Gt) (Aq Bf (Ag 3) (tD (.int 0))) (AB (Ac (AM [744] s!"values" (Ag 0)) Ap) Ea))) Ia)) (As (tSt (tMt (mtU s!"flush" (mC 744 DP mN)) (Ag 0) Ap)) (As (tSt (tMt (mtU s!"row" (mC 744 F9 mN)) (Ag 0) (Ac (Ag 2) Ap))) (As (Bi (tD .none)) At))) At) (As (BY 4 (Aq VH (AB (Ac (AM [744] s!"values" (Ag 0)) Ap) Ea) (Aq Bf (Ag 3) (tD (.int 0))))) (As (BY 5 (Aq Bl (Aq Bl (tD (.str s!"(")) (tMt (mtS LC) (tD (.str s!" ")) (Ac (Aq Bl (Bk (Ac (Ag 2) Ap)) (tSl true (AM [744] s!"values" (Ag 0)) (Ag 4) (tD .none))) Ap))) (tD (.str s!")")))) (As (C1 [744] s!"values" (tSl false (AM [744] s!"values" (Ag 0)) (tD .none) (Ag 4)) (Ag 0)) (As (Bb (tTr (Aq (B7 .Eq) (Aq Bf (Ag 3) (tD (.int 1))) (tD (.int 1)))) (As (tSt (tMt (mtL Nm) (AM [744] s!"values" (Ag 0)) (Ac (Ag 5) Ap))) At) (As (tSt (tMt (mtU s!"flush" (mC 744 DP mN)) (Ag 0) Ap)) (As (tSt (tMt (mtU s!"row" (mC 744 F9 mN)) (Ag 0) (Ac (Ag 5) Ap))) At))) At))))))
noncomputable def Gj:CS:=AT 2 4 EL
noncomputable def FN:TS:=(As (Gw (tIt (tSl true (Ag 1) (tD .none) (Mg (tD (.int 1))))) (Hc 2) (As (BY 3 (Aq Bf (Ag 2) (tD (.int 0)))) (As (Bb (tTr (Aq (B7 .In) (Ag 3) (Bp (Ac (tD Ha) (Ac (tD IL) (Ac (tD PO) Ap)))))) (As Gb At) (As (Bb (tTr (Aq (B7 .Eq) (Ag 3) (tD FL))) (As Gb At) (As (Bb (tTr (Aq (B7 .Eq) (Ag 3) (tD M0))) (As Gb At) (As (tSt (tMt (mtU s!"single" (mC 744 Gj mN)) (Ag 0) (Ac (Ag 2) Ap))) At)) At)) At)) At))) (As (tSt (tMt (mtU s!"flush" (mC 744 DP mN)) (Ag 0) Ap)) (As (Bi (tFz (AM [744] s!"rows" (Ag 0)))) At)))
noncomputable def I1:CS:=AT 2 2 FN
noncomputable def FO:TS:=(As (C1 [744] s!"module" (Ag 1) (Ag 0)) (As (C1 [744] s!"told" (Ag 2) (Ag 0)) (As (C1 [744] s!"depth" (Ag 3) (Ag 0)) (As (C1 [744] s!"rows" (Dw Ap) (Ag 0)) (As (C1 [744] s!"values" (Dw Ap) (Ag 0)) (As (C1 [744] s!"closers" (Bk Ap) (Ag 0)) At))))))
noncomputable def LD:CS:=AT 4 0 FO
noncomputable def PC:CS:=Vo 744 LD
noncomputable def D8:TS:=(As (BY 3 (Aq Bl (tMt (mtU s!"imported" (mC 443 DE mN)) (AM [864] s!"module" (Ag 0)) (Ac (tD BU) Ap)) (Ag 1))) (As (BY 4 (tMt (mtU s!"local_ids" (mC 864 Eo mN)) (Ag 0) (Ac (Ag 3) (Ac (Aq Bl (AB (Ac (Aq Bf (tMt (mtU s!"kind_of" (mC 864 DF mN)) (Ag 0) (Ac (Ag 2) Ap)) (tD (.int 0))) Ap) Ea) (AB (Ac (AM [220] s!"locals" (Ag 2)) Ap) Ea)) Ap)))) (As (BY 5 (tFz (AB (Ac (AM [864] s!"func_ids" (Ag 0)) (Ac (Ag 4) Ap)) PG))) (As (BY 6 (Dw (Ac (tMt (mtU s!"head_text" (mC 864 Em mN)) (Ag 0) (Ac (Ag 3) (Ac (Ag 2) (Ac (Ag 4) Ap)))) Ap))) (As (Bb (tTr (AM [864] s!"is_folded" (Ag 0))) (As (tSt (tMt (mtL Rt) (Ag 6) (Ac (tMt (mtU s!"fold" (mC 744 I1 mN)) (AB (Ac (AM [864] s!"module" (Ag 0)) (Ac (Ag 5) (Ac (tD (.int 1)) Ap))) PC) (Ac (AM [220] s!"body" (Ag 2)) Ap)) Ap))) At) (As (tSt (tMt (mtL Rt) (Ag 6) (Ac (AB (Ac (Ag 5) (Ac (AM [220] s!"body" (Ag 2)) (Ac (tD (.int 1)) Ap))) JX) Ap))) At)) (As (Bi (tFz (Aq Bl (Ag 6) (Bk (Ac (tD (.str s!")")) Ap))))) At))))))
noncomputable def El:CS:=Bt (AT 3 4 D8)
noncomputable def CC:TS:=(As (BY 1 (Dw Ap)) (As (Gw (tIt (AM [443] s!"exports" (AM [864] s!"module" (Ag 0)))) (RM [2,3,4]) (As Gb (As Gb At))) (As (Bb (tTr (Aq (B7 .IsNot) (AM [443] s!"start" (AM [864] s!"module" (Ag 0))) (tD .none))) (As Gb At) At) (As (Bi (tFz (Ag 1))) At))))
noncomputable def Dy:CS:=Bt (AT 1 5 CC)
noncomputable def CP:TS:=(As (BY 1 (Eg (tIt (AM [443] s!"tables" (AM [864] s!"module" (Ag 0)))) [] Eh tNo)) (ON 1 (As (Bi (tFz (Aq Bl (Ag 1) (tFz (Eg (tIt (AM [443] s!"memories" (AM [864] s!"module" (Ag 0)))) [] Eh tNo))))) At)))
noncomputable def DR:CS:=Bt (AT 1 1 CP)
noncomputable def CD:TS:=(As (BY 1 (Dw Ap)) (As (Gw (tIt (AM [443] s!"globals" (AM [864] s!"module" (Ag 0)))) (Hc 2) (As Gb (As Gb At))) (As (Bi (tFz (Ag 1))) At)))
noncomputable def Dz:CS:=Bt (AT 1 3 CD)
noncomputable def Fm:TS:=(As (BY 1 (tIf (IV (tTr (Aq (B7 .Is) (AM [864] s!"names" (Ag 0)) (tD .none))) (IV tNo Ia)) QL tNo)) (As (BY 2 (Aq Bf (AB (Ac (Ag 1) (Ac (tD (.int 1)) Ap)) My) (tD (.int 0)))) (As (Bi (tIf (tTr (Aq (B7 .Eq) (Ag 2) (tD (.str s!"")))) (tD Hb) tNo)) At)))
noncomputable def H7:CS:=Bt (AT 1 2 Fm)
noncomputable def Fn:TS:=(As (BY 1 (Aq Bl (tMt (mtU s!"kind_rows" (mC 864 En mN)) (Ag 0) Ap) (tMt (mtU s!"import_rows" (mC 864 DA mN)) (Ag 0) Ap))) (As (Gw (Wz (AM [443] s!"funcs" (AM [864] s!"module" (Ag 0)))) (RM [2,3]) (As (tSt (tMt (mtL Rt) (Ag 1) (Ac (tMt (mtU s!"func_rows" (mC 864 El mN)) (Ag 0) (Ac (Ag 2) (Ac (Ag 3) Ap))) Ap))) At)) (As (tSt (tMt (mtL Rt) (Ag 1) (Ac (Aq Bl (Aq Bl (tMt (mtU s!"small_rows" (mC 864 DR mN)) (Ag 0) Ap) (tMt (mtU s!"global_rows" (mC 864 Dz mN)) (Ag 0) Ap)) (tMt (mtU s!"export_rows" (mC 864 Dy mN)) (Ag 0) Ap)) Ap))) (As (tSt (tMt (mtL Rt) (Ag 1) (Ac (Eg (tIt (AM [443] s!"elems" (AM [864] s!"module" (Ag 0)))) [] Eh tNo) Ap))) (As (tSt (tMt (mtL Rt) (Ag 1) (Ac (Eg (tIt (AM [443] s!"datas" (AM [864] s!"module" (Ag 0)))) [] Eh tNo) Ap))) (As (Bi (Aq Bl (tMt (mtS LC) (tD (.str (Str.ofString "\n"))) (Ac (Aq Bl (Aq Bl (Bk (Ac (tMt (mtU s!"mark" (mC 864 H7 mN)) (Ag 0) Ap) Ap)) (Eg (tIt (Ag 1)) [] Eh (Aq Bl (tD Eb) (Ag 0)))) (Bk (Ac (tD (.str s!")")) Ap))) Ap)) (tD (.str (Str.ofString "\n"))))) At))))))
noncomputable def Fb:CS:=Bt (AT 1 3 Fn)
noncomputable def FR:TS:=(As (BY 2 (Aq Bf (Bk (Ac (AM [443] s!"funcs" (Ag 0)) (Ac (AM [443] s!"tables" (Ag 0)) (Ac (AM [443] s!"memories" (Ag 0)) (Ac (AM [443] s!"globals" (Ag 0)) Ap))))) (Ag 1))) (As (Bi (Aq Bl (tMt (mtU s!"imported" (mC 443 DE mN)) (Ag 0) (Ac (Ag 1) Ap)) (AB (Ac (Ag 2) Ap) Ea))) At))
noncomputable def I2:CS:=Bt (AT 2 1 FR)
noncomputable def Fk:TS:=(As (C1 [864] s!"module" (Ag 1) (Ag 0)) (As (C1 [864] s!"names" (Ag 2) (Ag 0)) (As (C1 [864] s!"is_folded" (Ag 3) (Ag 0)) (As (BY 4 (tIf (tTr (Aq (B7 .Is) (Ag 2) (tD .none))) QL tNo)) (As (C1 [864] s!"func_ids" (AB (Ac (Ag 4) (Ac (tMt (mtU s!"many" (mC 443 I2 mN)) (Ag 1) (Ac (tD BU) Ap)) Ap)) My) (Ag 0)) (As (C1 [864] s!"plain_told" (tFz (AB (Ac (AM [864] s!"func_ids" (Ag 0)) (Ac (Bk Ap) Ap)) PG)) (Ag 0)) At))))))
noncomputable def JV:CS:=AT 4 1 Fk
noncomputable def KP:CS:=Vo 864 JV
noncomputable def Fo:TS:=(As (Bi (tMt (mtU s!"text" (mC 864 Fb mN)) (tFz (AB (Ac (Ag 0) (Ac (Ag 1) (Ac (tD (.bool false)) Ap))) KP)) Ap)) At)
noncomputable def H8:CS:=Bt (Oj 2 [.none] 0 Fo)
noncomputable def FT:TS:=(As (Bi (tMt (mtU s!"text" (mC 864 Fb mN)) (tFz (AB (Ac (Ag 0) (Ac (Ag 1) (Ac (tD (.bool true)) Ap))) KP)) Ap)) At)
noncomputable def I3:CS:=Bt (Oj 2 [.none] 0 FT)
noncomputable def IX:TS:=(As (Bi (Bk (Ac (Bp (Ac (tD (.int 65)) (Ac (Aq VH (Aq CW (Ag 0) (tD (.int 5))) (tD (.int 2))) Ap))) (Ac (Bp (Ac (tD (.int 65)) (Ac (Aq CW (Ag 0) (tD (.int 3))) Ap))) (Ac (Bp (Ac (tD (.int 66)) (Ac (Aq VH (Aq CW (Ag 0) (tD (.int 7))) (tD (.int 3))) Ap))) (Ac (Bp (Ac (tD (.int 32)) (Ac (Aq CW (Ag 0) (tD (.int 2))) Ap))) (Ac (Bp (Ac (tD (.int 32)) (Ac (Aq CW (Aq Oz (Ag 0) (tD (.int 2))) (tD (.int 2))) Ap))) (Ac (Bp (Ac (tD (.int 35)) (Ac (Aq CW (Ag 0) (tD (.int 3))) Ap))) (Ac (Bp (Ac (tD (.int 36)) (Ac (Aq CW (Ag 0) (tD (.int 3))) Ap))) (Ac (Bp (Ac (tD (.int 33)) (Ac (Aq CW (Ag 0) (tD (.int 2))) Ap))) (Ac (Bp (Ac (tD (.int 34)) (Ac (Aq CW (Ag 0) (tD (.int 2))) Ap))) (Ac (Bp (Ac (tD (.int 26)) Ap)) (Ac (Bp (Ac (tD (.int 27)) Ap)) (Ac (Bp (Ac (tD (.int 28)) (Ac (Aq Bf (Bp (Ac (Mg (tD (.int 1))) (Ac (Mg (tD (.int 2))) (Ac (Mg (tD (.int 16))) Ap)))) (Aq CW (Ag 0) (tD (.int 3)))) Ap))) (Ac (Bp (Ac (tD (.int 16)) (Ac (Aq CW (Ag 0) (tD (.int 5))) Ap))) (Ac (Bp (Ac (tD (.int 16)) (Ac (Aq CW (Ag 0) (tD (.int 5))) Ap))) (Ac (Bp (Ac (tD (.int 16)) (Ac (Aq CW (Aq Oz (Ag 0) (tD (.int 5))) (tD (.int 5))) Ap))) (Ac (Bp (Ac (tD (.int 17)) (Ac (Aq CW (Ag 0) (tD (.int 5))) (Ac (Aq CW (Aq Oz (Ag 0) (tD (.int 5))) (tD (.int 2))) Ap)))) (Ac (Bp (Ac (tD (.int 17)) (Ac (Aq CW (Aq Oz (Ag 0) (tD (.int 2))) (tD (.int 5))) (Ac (Aq CW (Ag 0) (tD (.int 2))) Ap)))) (Ac (Bp (Ac (tD (.int 106)) Ap)) (Ac (Bp (Ac (tD (.int 124)) Ap)) (Ac (Bp (Ac (tD (.int 69)) Ap)) (Ac (Bp (Ac (tD (.int 172)) Ap)) (Ac (Bp (Ac (tD (.int 40)) (Ac (Aq CW (Ag 0) (tD (.int 3))) (Ac (Aq CW (Aq Oz (Ag 0) (tD (.int 3))) (tD (.int 3))) Ap)))) (Ac (Bp (Ac (tD (.int 54)) (Ac (Aq CW (Ag 0) (tD (.int 3))) (Ac (Aq CW (Aq Oz (Ag 0) (tD (.int 3))) (tD (.int 2))) Ap)))) (Ac (Bp (Ac (tD (.int 63)) Ap)) (Ac (Bp (Ac (tD (.int 64)) Ap)) (Ac (Bp (Ac (tD (.int 37)) (Ac (Aq CW (Ag 0) (tD (.int 2))) Ap))) (Ac (Bp (Ac (tD (.int 38)) (Ac (Aq CW (Ag 0) (tD (.int 2))) Ap))) (Ac (Bp (Ac (tD (.int 208)) (Ac (Aq Bf (Bp (Ac (Mg (tD (.int 16))) (Ac (Mg (tD (.int 17))) Ap))) (Aq CW (Ag 0) (tD (.int 2)))) Ap))) (Ac (Bp (Ac (tD (.int 209)) Ap)) (Ac (Bp (Ac (tD (.int 210)) (Ac (Aq CW (Ag 0) (tD (.int 5))) Ap))) (Ac (Bp (Ac (tD (.int 64520)) (Ac (Aq CW (Ag 0) (tD (.int 2))) Ap))) (Ac (Bp (Ac (tD (.int 64521)) (Ac (Aq CW (Ag 0) (tD (.int 2))) Ap))) (Ac (Bp (Ac (tD (.int 64522)) Ap)) (Ac (Bp (Ac (tD (.int 64523)) Ap)) (Ac (Bp (Ac (tD (.int 64524)) (Ac (Aq CW (Ag 0) (tD (.int 2))) (Ac (Aq CW (Aq Oz (Ag 0) (tD (.int 2))) (tD (.int 2))) Ap)))) (Ac (Bp (Ac (tD (.int 64525)) (Ac (Aq CW (Ag 0) (tD (.int 2))) Ap))) (Ac (Bp (Ac (tD (.int 64526)) (Ac (Aq CW (Ag 0) (tD (.int 2))) (Ac (Aq CW (Aq Oz (Ag 0) (tD (.int 2))) (tD (.int 2))) Ap)))) (Ac (Bp (Ac (tD (.int 64527)) (Ac (Aq CW (Ag 0) (tD (.int 2))) Ap))) (Ac (Bp (Ac (tD (.int 64528)) (Ac (Aq CW (Ag 0) (tD (.int 2))) Ap))) (Ac (Bp (Ac (tD (.int 64529)) (Ac (Aq CW (Ag 0) (tD (.int 2))) Ap))) (Ac (Bp (Ac (tD (.int 12)) (Ac (tD (.int 0)) Ap))) (Ac (Bp (Ac (tD (.int 13)) (Ac (tD (.int 0)) Ap))) (Ac (Bp (Ac (tD (.int 14)) (Ac (tD (.int 0)) (Ac (tD (.int 0)) Ap)))) (Ac (Bp (Ac (tD (.int 15)) Ap)) (Ac (Bp (Ac (tD (.int 0)) Ap)) (Ac (Bp (Ac (tD (.int 1)) Ap)) (Ac (Bp (Ac (tD (.int 18)) (Ac (Aq CW (Ag 0) (tD (.int 5))) Ap))) (Ac (Bp (Ac (tD (.int 19)) (Ac (Aq CW (Ag 0) (tD (.int 5))) (Ac (Aq CW (Aq Oz (Ag 0) (tD (.int 5))) (tD (.int 2))) Ap)))) (Ac (Bp (Ac (tD (.int 65)) (Ac (Aq CW (Ag 0) (tD (.int 9999))) Ap))) (Ac (Bp (Ac (tD (.int 106)) Ap)) Ap)))))))))))))))))))))))))))))))))))))))))))))))))))) At)
noncomputable def LX:CS:=Bt (AT 1 0 IX)
noncomputable def GU:TS:=(As (Bb (tTr (Aq (B7 .In) (Aq Bf (Ag 0) (tD (.int 0))) (Bp (Ac (tD (.int 16)) (Ac (tD (.int 17)) Ap))))) (As (BY 2 (Aq Bf (Ag 0) (tD (.int 1)))) (As (Bb (tTr (Aq (B7 .Eq) (Aq Bf (Ag 0) (tD (.int 0))) (tD (.int 16)))) (As (BY 2 (tIf (tTr (Aq (B7 .Lt) (Ag 2) (AB (Ac (Ag 1) Ap) Ea))) (Aq Bf (Ag 1) (Ag 2)) (AB (Ac (tD BR) Ap) Ea))) At) At) (As (Bb (tTr (Aq (B7 .GtE) (Ag 2) (AB (Ac (tD BR) Ap) Ea))) (As (Bi (tD .none)) At) At) (As (Bi (Bp (Ac (Aq VH (Aq Bl (AB (Ac (Aq Bf (Aq Bf (tD BR) (Ag 2)) (tD (.int 0))) Ap) Ea) (Aq Bf (Ag 0) (tD (.int 0)))) (tD (.int 16))) (Ac (AB (Ac (Aq Bf (Aq Bf (tD BR) (Ag 2)) (tD (.int 1))) Ap) Ea) Ap)))) At)))) At) (As (Gw (tIt (tD K2)) (RM [3,4]) (As (Bb (tTr (Aq (B7 .In) (Aq Bf (Ag 0) (tD (.int 0))) (Ag 4))) (As (Bi (Ag 3)) At) At) At)) (As (Bi (tD .none)) At)))
noncomputable def II:CS:=Bt (AT 2 3 GU)
noncomputable def GV:TS:=(As (HM [2,3] (Ac (Bk Ap) (Ac (Bk Ap) Ap))) (As (Gw (Mh (AB (Ac (Ag 0) Ap) Ea)) (Hc 4) (As (Bb (IV (tTr (Aq (B7 .Is) (Aq Bf (Ag 1) (Ag 4)) (tD .none))) (IV (tTr (Aq (B7 .Gt) (Aq Bf (Aq Bf (Ag 1) (Ag 4)) (tD (.int 0))) (AB (Ac (Ag 3) Ap) Ea))) Ia)) (As (HM [2,3] (Ac (tFz (Aq Bl (tFz (Aq Bl (Ag 2) (Ag 3))) (Bk (Ac (Aq Bf (Ag 0) (Ag 4)) Ap)))) (Ac (Bk Ap) Ap))) At) (As (BY 5 (Aq VH (AB (Ac (Ag 3) Ap) Ea) (Aq Bf (Aq Bf (Ag 1) (Ag 4)) (tD (.int 0))))) (As (BY 6 (Aq Bl (Aq Bl (tD (.str s!"(")) (tMt (mtS LC) (tD (.str s!" ")) (Ac (tFz (Aq Bl (Bk (Ac (Aq Bf (Ag 0) (Ag 4)) Ap)) (tSl true (Ag 3) (Ag 5) (tD .none)))) Ap))) (tD (.str s!")")))) (As (BY 3 (tFz (Aq Bl (tSl true (Ag 3) (tD .none) (Ag 5)) (Bk (Ac (Ag 6) Ap))))) (As (Bb (tTr (Aq (B7 .NotEq) (Aq Bf (Aq Bf (Ag 1) (Ag 4)) (tD (.int 1))) (tD (.int 1)))) (As (HM [2,3] (Ac (tFz (Aq Bl (Ag 2) (Ag 3))) (Ac (Bk Ap) Ap))) At) At) At))))) At)) (As (Bi (tFz (Aq Bl (Ag 2) (Ag 3)))) At)))
noncomputable def IJ:CS:=Bt (AT 2 5 GV)
noncomputable def IW:TS:=(As (Bb (tTr (Aq (B7 .NotEq) (Aq Bf (Ag 0) (tD (.int 0))) (tD (.str s!"(")))) (As (Bi (tFz (Dw (Ac (Ag 0) Ap)))) At) At) (As (BY 1 (Dw (Ac (Dw (Ac (Dw Ap) (Ac (Dw Ap) Ap))) Ap))) (As (Gw (tIt (tMt (mtS TF) (SZ s!")" s!" ) " (SZ s!"(" s!" ( " (Ag 0))) Ap)) (Hc 2) (As (Bb (tTr (Aq (B7 .Eq) (Ag 2) (tD (.str s!"(")))) (As (tSt (tMt (mtL Nm) (Ag 1) (Ac (Dw (Ac (Dw Ap) (Ac (Dw Ap) Ap))) Ap))) At) (As (Bb (tTr (Aq (B7 .Eq) (Ag 2) (tD (.str s!")")))) (As (Wy [3,4] (tMt (mtL cPop) (Ag 1) Ap)) (As (Bb (tTr (Aq (B7 .In) (Aq Bf (Ag 3) (tD (.int 0))) (Bp (Ac (tD (.str s!"type")) (Ac (tD (.str s!"result")) Ap))))) (As (tSt (tMt (mtL Nm) (Aq Bf (Aq Bf (Ag 1) (Mg (tD (.int 1)))) (tD (.int 0))) (Ac (Aq Bl (Aq Bl (tD (.str s!"(")) (tMt (mtS LC) (tD (.str s!" ")) (Ac (Ag 3) Ap))) (tD (.str s!")"))) Ap))) At) (As (tSt (tMt (mtL Rt) (Aq Bf (Aq Bf (Ag 1) (Mg (tD (.int 1)))) (tD (.int 1))) (Ac (Aq Bl (Ag 4) (Dw (Ac (tMt (mtS LC) (tD (.str s!" ")) (Ac (Ag 3) Ap)) Ap))) Ap))) At)) At)) (As (tSt (tMt (mtL Nm) (Aq Bf (Aq Bf (Ag 1) (Mg (tD (.int 1)))) (tD (.int 0))) (Ac (Ag 2) Ap))) At)) At)) At)) (As (Bi (tFz (Aq Bf (Aq Bf (Ag 1) (tD (.int 0))) (tD (.int 1))))) At))))
noncomputable def LW:CS:=Bt (AT 1 4 IW)
noncomputable def FU:TS:=(As (BY 1 (tFz (tMt (mtS TF) (Ag 0) (Ac (tD (.str (Str.ofString "\n"))) Ap)))) (As (BY 2 (tMt (mtL TB) (Ag 1) (Ac (tD (.str s!"  (func (type 0) (local i32 i64)")) Ap))) (As (BY 3 (tSl true (Ag 1) (Aq Bl (Ag 2) (tD (.int 1))) (tMt (mtL TB) (Ag 1) (Ac (tD (.str s!"  )")) (Ac (Ag 2) Ap))))) (As (Bb (tTr (Aq (B7 .NotEq) (tFz (Eg (tIt (Ag 3)) [] (IV (tTr (Aq (B7 .NotEq) (tSl true (Ag 0) (tD .none) (tD (.int 4))) (tD (.str s!"    ")))) (IV (tTr (Aq (B7 .Eq) (tSl true (Ag 0) (tD (.int 4)) (tD (.int 5))) (tD (.str s!" ")))) Ia)) (Ag 0))) (Bk Ap))) (As (Bi (tD .none)) At) At) (As (Bi (tFz (Eg (tIt (Ag 3)) [] Eh (tSl true (Ag 0) (tD (.int 4)) (tD .none))))) At)))))
noncomputable def FH:CS:=Bt (AT 1 3 FU)
noncomputable def FQ:TS:=(As (C1 [443] s!"kinds" (Bk Ap) (Ag 0)) (As (C1 [443] s!"imports" (Bk Ap) (Ag 0)) (As (C1 [443] s!"funcs" (Bk Ap) (Ag 0)) (As (C1 [443] s!"tables" (Bk Ap) (Ag 0)) (As (C1 [443] s!"memories" (Bk Ap) (Ag 0)) (As (C1 [443] s!"globals" (Bk Ap) (Ag 0)) (As (C1 [443] s!"exports" (Bk Ap) (Ag 0)) (As (C1 [443] s!"start" (tD .none) (Ag 0)) (As (C1 [443] s!"elems" (Bk Ap) (Ag 0)) (As (C1 [443] s!"datas" (Bk Ap) (Ag 0)) (As (C1 [443] s!"customs" (Bk Ap) (Ag 0)) At)))))))))))
noncomputable def LF:CS:=AT 1 0 FQ
noncomputable def PF:CS:=Vo 443 LF
noncomputable def FP:TS:=(As (C1 [192] s!"place" (Ag 1) (Ag 0)) (As (C1 [192] s!"name" (Ag 2) (Ag 0)) (As (C1 [192] s!"sort" (Ag 3) (Ag 0)) (As (C1 [192] s!"about" (Ag 4) (Ag 0)) At))))
noncomputable def LE:CS:=AT 5 0 FP
noncomputable def PE:CS:=Vo 192 LE
noncomputable def HN:TS:=(As (C1 [220] s!"kind" (Ag 1) (Ag 0)) (As (C1 [220] s!"locals" (Ag 2) (Ag 0)) (As (C1 [220] s!"body" (Ag 3) (Ag 0)) At)))
noncomputable def Oa:CS:=AT 4 0 HN
noncomputable def PD:CS:=Vo 220 Oa
noncomputable def Fj:TS:=(As (BY 1 (Bk (Ac (AB (Ac (AM [443] s!"kinds" (Ag 0)) Ap) I0) (Ac (AB (Ac (AM [443] s!"imports" (Ag 0)) Ap) DS) (Ac (AB (Ac (AM [443] s!"funcs" (Ag 0)) Ap) DS) (Ac (AB (Ac (AM [443] s!"tables" (Ag 0)) Ap) I0) Ap)))))) (As (BY 1 (tFz (Aq Bl (Ag 1) (Bk (Ac (AB (Ac (AM [443] s!"memories" (Ag 0)) Ap) I0) (Ac (AB (Ac (AM [443] s!"globals" (Ag 0)) Ap) DS) (Ac (AB (Ac (AM [443] s!"exports" (Ag 0)) Ap) I0) (Ac (AM [443] s!"start" (Ag 0)) Ap)))))))) (As (Bi (AB (Ac (tFz (Aq Bl (Ag 1) (Bk (Ac (AB (Ac (AM [443] s!"elems" (Ag 0)) Ap) DS) (Ac (AB (Ac (AM [443] s!"datas" (Ag 0)) Ap) DS) (Ac (AB (Ac (AM [443] s!"customs" (Ag 0)) Ap) DS) Ap)))))) Ap) I0)) At)))
noncomputable def Fa:CS:=Bt (AT 1 1 Fj)
noncomputable def Z3:TS:=(As (BY 0 (tSl true (Ag 0) (tD .none) (tD (.int 63)))) (As (BY 1 (tIf (tTr (Aq (B7 .NotEq) (Ag 0) (Bk Ap))) (AB (Ac (Aq Bf (Ag 0) (tD (.int 0))) Ap) A3F) (tD (.int 0)))) (As (Z2 [2,3,4] (Ac (Bk (Ac (Aq CW (Ag 1) (tD (.int 4))) (Ac (tD (.int 0)) (Ac (Aq CW (Aq Oz (Ag 1) (tD (.int 4))) (tD (.int 4))) (Ac (tD (.int 9)) Ap))))) (Ac (Dw Ap) (Ac (AB Ap PF) Ap)))) (As (Gw (Mh (AB (Ac (tD (.int 3)) (Ac (AB (Ac (tD (.int 16)) (Ac (Aq VH (AB (Ac (Ag 0) Ap) Ea) (tD (.int 1))) Ap)) cMin) Ap)) cMax)) (Hc 5) (As (BY 6 (AB (Ac (Aq Bl (tIf (tTr (Aq (B7 .Lt) (Aq Bl (Ag 5) (tD (.int 1))) (AB (Ac (Ag 0) Ap) Ea))) (Aq Bf (Ag 0) (Aq Bl (Ag 5) (tD (.int 1)))) (tD (.int 0))) (Aq A1o (tD (.int 31)) (Ag 5))) Ap) A3F)) (As (BY 7 (AB (Ac (Aq Oz (Ag 6) (tD (.int 50))) Ap) LX)) (As (tSt (tMt (mtL Nm) (Ag 3) (Ac (Aq Bf (Ag 7) (Aq CW (Ag 6) (tD (.int 50)))) Ap))) At)))) (ON 3 (As (C1 [443] s!"kinds" (tFz (AB (Ac (tD BR) Ap) A1b)) (Ag 4)) (As (C1 [443] s!"imports" (Bk (Ac (tFz (AB (Ac (tD (.str s!"h")) (Ac (tD (.str s!"f")) (Ac (tD (.int 0)) (Ac (Aq Bf (Ag 2) (tD (.int 0))) Ap)))) PE)) Ap)) (Ag 4)) (As (C1 [443] s!"funcs" (Bk (Ac (tFz (AB (Ac (tD (.int 0)) (Ac (Bp (Ac (Mg (tD (.int 1))) (Ac (Mg (tD (.int 2))) Ap))) (Ac (tFz (Aq Bl (Ag 3) (Bk (Ac (Bp (Ac (tD (.int 11)) Ap)) Ap)))) Ap))) PD)) (Ac (tFz (AB (Ac (Aq Bf (Ag 2) (tD (.int 2))) (Ac (Bp Ap) (Ac (Bk (Ac (Bp (Ac (tD (.int 11)) Ap)) Ap)) Ap))) PD)) (Ac (tFz (AB (Ac (tD (.int 9)) (Ac (Bp Ap) (Ac (Bk (Ac (Bp (Ac (tD (.int 11)) Ap)) Ap)) Ap))) PD)) Ap)))) (Ag 4)) (ON 4 (As (HM [8,9] (Ac (tMt (mtU s!"plain" (mC 443 Fa mN)) (Ag 4) Ap) (Ac (tFz (Eg (tIt (Ag 3)) [4] Eh (AB (Ac (Ag 1) (Ac (Ag 0) Ap)) Ep))) Ap))) (As (BY 10 (Eg (tIt (Ag 3)) [2] Eh (AB (Ac (Ag 0) (Ac (Ag 1) Ap)) II))) (ON 10 (As (Bb (IV (tTr (Aq (B7 .NotEq) (tFz (Eg (tIt (Ag 3)) [4] Eh (AB (Ac (Ag 1) (Ac (Ag 0) Ap)) HG))) (Ag 10))) (IV (tTr (Aq (B7 .NotEq) (AB (Ac (AB (Ac (Ag 4) Ap) H8) Ap) FH) (Ag 9))) Ia)) (As (Bi (tD (.bool false))) At) At) (As (HM [11,12] (Ac (AB (Ac (AB (Ac (Ag 4) Ap) I3) Ap) FH) (Ac (Dw Ap) Ap))) (As (Bb (tTr (Aq (B7 .NotEq) (Ag 11) (AB (Ac (Ag 9) (Ac (Ag 10) Ap)) IJ))) (As (Bi (tD (.bool false))) At) At) (As (Gw (tIt (Ag 11)) (Hc 13) (As (tSt (tMt (mtL Rt) (Ag 12) (Ac (AB (Ac (Ag 13) Ap) LW) Ap))) At)) (As (Bi (SY (Aq (B7 .Eq) (Ag 12) (Ag 9)) (Aq (B7 .Eq) (tMt (mtU s!"plain" (mC 443 Fa mN)) (Ag 4) Ap) (Ag 8)))) At)))))))))))))))))
noncomputable def A4L:CS:=AT 1 13 Z3
noncomputable def KA:XS:=(Al (B8 (xMt (A4v A4w) (xD I7) (A8 (Aa 0) (A8 (xD (.str s!"unknown")) Af)))) Am)
theorem V8:AdS HS KA:=by delta HS KA;solve_by_elim []
noncomputable def Oo:XC:=Bc (By 1 0 KA)
theorem Vk:AdC JY Oo:=BC (C5 1 0 V8)
noncomputable def J4:XS:=(Al (B8 (xMt (Hp Di) (xD (.str s!" ")) (A8 (xFz (C7 (xIt (Aa 0)) [] BD (Av (A8 (Aa 0) Af) Oo))) Af))) Am)
theorem Tf:AdS GT J4:=by delta GT J4;solve_by_elim [Vk]
noncomputable def Na:XC:=Bc (By 1 0 J4)
theorem Tn:AdC IH Na:=BC (C5 1 0 Tf)
noncomputable def Il:XS:=(Al (DL (xIt (xD M1)) (MI [1,2,3,4]) (Al (AO (xTr (xCh (AF .LtE) (AF .LtE) (Aa 1) (Aa 0) (Aa 2))) (Al (B8 (B2 (A8 (Aa 3) (A8 (Aa 4) Af)))) Am) Am) Am)) (Al (B8 (xD .none)) Am))
theorem R9:AdS FW Il:=by delta FW Il;solve_by_elim []
noncomputable def Io:XC:=Bc (By 1 4 Il)
theorem LB:AdC FJ Io:=BC (C5 1 4 R9)
noncomputable def NV:XS:=(Al (AO (xTr (Ai (AF .In) (Aa 0) (xD K0))) (Al (B8 (Ai AE (xD K0) (Aa 0))) Am) Am) (Al (AO (DM (xTr (Ai (AF .In) (Aa 0) (xD DU))) (DM (xTr (Ai (AF .In) (Aa 0) (xD Ec))) E1)) (Al (B8 (xD (.str s!"memarg"))) Am) Am) (Al (B8 (xIf (xTr (Ai (AF .Is) (Av (A8 (Aa 0) Af) Io) (xD .none))) (xD .none) (xD (.str s!"none")))) Am)))
theorem Zj:AdS KY NV:=by delta KY NV;solve_by_elim [LB]
noncomputable def O0:XC:=Bc (By 1 0 NV)
theorem Zo:AdC Nn O0:=BC (C5 1 0 Zj)
noncomputable def Mj:XS:=(Al (AO (xTr (Ai (AF .In) (Aa 0) (xD JZ))) (Al (B8 (Ai AE (xD JZ) (Aa 0))) Am) Am) (Al (AO (xTr (Ai (AF .In) (Aa 0) (xD DU))) (Al (B8 (B2 (A8 (B2 (A8 (xD PN) Af)) (A8 (B2 (A8 (Ai AE (Ai AE (xD DU) (Aa 0)) (xD (.int 0))) Af)) Af)))) Am) Am) (Al (AO (xTr (Ai (AF .In) (Aa 0) (xD Ec))) (Al (B8 (B2 (A8 (B2 (A8 (xD PN) (A8 (Ai AE (Ai AE (xD Ec) (Aa 0)) (xD (.int 0))) Af))) (A8 (B2 Af) Af)))) Am) Am) (Al (B8 (Av (A8 (Aa 0) Af) Io)) Am))))
theorem WZ:AdS IZ Mj:=by delta IZ Mj;solve_by_elim [LB]
noncomputable def QZ:XC:=Bc (By 1 0 Mj)
theorem X7:AdC LY QZ:=BC (C5 1 0 WZ)
noncomputable def NX:XS:=(Al (Bm 1 (xIf (xTr (Ai (AF .In) (Aa 0) (xD DU))) (Ai AE (Ai AE (xD DU) (Aa 0)) (xD (.int 1))) (Ai AE (Ai AE (xD Ec) (Aa 0)) (xD (.int 1))))) (Al (B8 (WK [(PyData.int 1,PyData.int 0),(PyData.int 2,PyData.int 1),(PyData.int 4,PyData.int 2),(PyData.int 8,PyData.int 3)] (Aa 1))) Am))
theorem Zl:AdS L0 NX:=by delta L0 NX;solve_by_elim []
noncomputable def T6:XC:=Bc (By 1 1 NX)
theorem Zq:AdC Np T6:=BC (C5 1 1 Zl)
noncomputable def Hl:XS:=(Al (B8 (B2 (A8 (Ay [192] s!"place" (Aa 0)) (A8 (Ay [192] s!"name" (Aa 0)) (A8 (Ay [192] s!"sort" (Aa 0)) (A8 (Ay [192] s!"about" (Aa 0)) Af)))))) Am)
theorem Pg:AdS Fi Hl:=by delta Fi Hl;solve_by_elim []
noncomputable def Dj:XC:=Bc (By 1 0 Hl)
theorem Pt:AdC H6 Dj:=BC (C5 1 0 Pg)
noncomputable def Fs:XS:=(Al (B8 (B2 (A8 (Ay [220] s!"kind" (Aa 0)) (A8 (Av (A8 (Ay [220] s!"locals" (Aa 0)) Af) GA) (A8 (Av (A8 (Ay [220] s!"body" (Aa 0)) Af) GA) Af))))) Am)
theorem Tc:AdS GR Fs:=by delta GR Fs;solve_by_elim []
noncomputable def CT:XC:=Bc (By 1 0 Fs)
theorem Tl:AdC IF CT:=BC (C5 1 0 Tc)
noncomputable def J6:XS:=(Al (B8 (Av (A8 (xFz (C7 (xIt (Aa 0)) [] BD (xMt (Bz s!"plain" (mC 192 Dj (mC 220 CT mN))) (Aa 0) Af))) Af) GA)) Am)
theorem WY:AdS IY J6:=by delta IY J6;solve_by_elim [Tl,Pt]
noncomputable def CX:XC:=Bc (By 1 0 J6)
theorem X6:AdC DS CX:=BC (C5 1 0 WY)
noncomputable def NY:XS:=(Al (Bm 1 (Av Af yBa)) (Al (DL (xIt (Aa 0)) (BN 2) (Al (Bm 3 (Av (A8 (Aa 2) Af) yOrd)) (Al (AO (xTr (xCh (AF .LtE) (AF .Lt) (xD (.int 55296)) (Aa 3) (xD (.int 57344)))) (Al Fp Am) Am) (Al (AO (xTr (Ai (AF .Lt) (Aa 3) (xD (.int 128)))) (Al (xSt (xMt (xmtB Yg) (Aa 1) (A8 (Aa 3) Af))) Am) (Al (AO (xTr (Ai (AF .Lt) (Aa 3) (xD (.int 2048)))) (Al Fp Am) (Al (AO (xTr (Ai (AF .Lt) (Aa 3) (xD (.int 65536)))) (Al Fp Am) (Al Fp Am)) Am)) Am)) Am)))) (Al (B8 (Av (A8 (Aa 1) Af) Yh)) Am)))
theorem Zm:AdS L1 NY:=by delta L1 NY;solve_by_elim []
noncomputable def T7:XC:=Bc (By 1 3 NY)
theorem Zr:AdC Nq T7:=BC (C5 1 3 Zm)
noncomputable def NW:XS:=(Al (AO (xTr (Ai (AF .In) (Aa 0) (xD K1))) (Al (B8 (Ai AE (xD K1) (Aa 0))) Am) Am) (Al (DL (xIt (xD TJ)) (MI [1,2,3]) (Al (AO (xTr (xCh (AF .LtE) (AF .Lt) (Aa 1) (Aa 0) (Ai AH (Aa 1) (Av (A8 (Aa 3) Af) BW)))) (Al (B8 (Ai AH (Aa 2) (Ai AE (Aa 3) (Ai J2 (Aa 0) (Aa 1))))) Am) Am) Am)) (Al (B8 (xD .none)) Am)))
theorem Zk:AdS KZ NW:=by delta KZ NW;solve_by_elim []
noncomputable def O1:XC:=Bc (By 1 3 NW)
theorem Zp:AdC No O1:=BC (C5 1 3 Zk)
noncomputable def Im:XS:=(Al (Bm 1 (BX Af)) (Al (DL (xIt (Aa 0)) (BN 2) (Al (AO (T3 (xTr (xCh (AF .LtE) (AF .Lt) (xD (.int 32)) (Aa 2) (xD (.int 127)))) (T3 (xTr (Ai (AF .NotIn) (Aa 2) (B2 (A8 (xD (.int 34)) (A8 (xD (.int 92)) Af))))) BD)) (Al (xSt (xMt (CR Hx) (Aa 1) (A8 (Av (A8 (Aa 2) Af) yChr) Af))) Am) (Al Fp Am)) Am)) (Al (B8 (Ai AH (Ai AH (xD (.str (Str.ofString "\""))) (xMt (Hp Di) (xD (.str s!"")) (A8 (Aa 1) Af))) (xD (.str (Str.ofString "\""))))) Am)))
theorem Ra:AdS FX Im:=by delta FX Im;solve_by_elim []
noncomputable def LQ:XC:=Bc (By 1 2 Im)
theorem Rn:AdC I5 LQ:=BC (C5 1 2 Ra)
noncomputable def KC:XS:=(Al (B8 (Av (A8 (Av (A8 (Aa 0) Af) T7) Af) LQ)) Am)
theorem Va:AdS HU KC:=by delta HU KC;solve_by_elim [Rn,Zr]
noncomputable def KK:XC:=Bc (By 1 0 KC)
theorem Vl:AdC HH KK:=BC (C5 1 0 Va)
noncomputable def QT:XS:=(Al (Bm 2 (BX Af)) (Al (DL (Ic (Aa 1)) (BN 3) (Al (Bm 4 (xMt (A4v A4w) (Aa 0) (A8 (Aa 3) (A8 (xD (.str s!"")) Af)))) (Al (Bm 5 (N8 (Ai (AF .NotEq) (Aa 4) (xD (.str s!""))) (N8 xNo xNo))) (Al (xSt (xMt (CR Hx) (Aa 2) (A8 (xIf (xTr (Aa 5)) xNo (xD (.str s!""))) Af))) Am)))) (Al (B8 (xFz (Aa 2))) Am)))
theorem A0U:AdS N5 QT:=by delta N5 QT;solve_by_elim []
noncomputable def QY:XC:=Bc (By 2 4 QT)
theorem Vj:AdC My QY:=BC (C5 2 4 A0U)
noncomputable def KB:XS:=(Al (B8 (xIf (xTr (Ai (AF .Eq) (Av (A8 (Aa 1) Af) BW) (xD (.int 0)))) (xD (.str s!"")) (Ai AH (Ai AH (Ai AH (Ai AH (xD (.str s!" (")) (Aa 0)) (xD (.str s!" "))) (Av (A8 (Aa 1) Af) Na)) (xD (.str s!")"))))) Am)
theorem V9:AdS HT KB:=by delta HT KB;solve_by_elim [Tn]
noncomputable def Gg:XC:=Bc (By 2 0 KB)
theorem JT:AdC EW Gg:=BC (C5 2 0 V9)
noncomputable def J7:XS:=(Al (AO (T3 (xTr (Ai (AF .Lt) (Aa 1) (Av (A8 (Aa 0) Af) BW))) (T3 (xTr (Ai (AF .NotEq) (Ai AE (Aa 0) (Aa 1)) (xD (.str s!"")))) BD)) (Al (B8 (Ai AE (Aa 0) (Aa 1))) Am) Am) (Al (B8 (Av (A8 (Aa 1) Af) NZ)) Am))
theorem Ti:AdS GW J7:=by delta GW J7;solve_by_elim []
noncomputable def J8:XC:=Bc (By 2 0 J7)
theorem Mw:AdC GM J8:=BC (C5 2 0 Ti)
noncomputable def Ik:XS:=(Al (Bm 3 (xD (.str s!""))) (Al (AO (xTr (Ai (AF .NotEq) (Aa 2) (xD (.int 0)))) (Al (Bm 3 (Ai AH (xD (.str s!" offset=")) (Av (A8 (Aa 2) Af) NZ))) Am) Am) (Al (AO (xTr (Ai (AF .NotEq) (Aa 1) (Av (A8 (Aa 0) Af) T6))) (Al (Bm 3 (Ai AH (Ai AH (Aa 3) (xD (.str s!" align="))) (Av (A8 (Ai A4u (xD (.int 2)) (Aa 1)) Af) NZ))) Am) Am) (Al (B8 (Aa 3)) Am))))
theorem R8:AdS FV Ik:=by delta FV Ik;solve_by_elim [Zq]
noncomputable def LP:XC:=Bc (By 3 1 Ik)
theorem Rm:AdC I4 LP:=BC (C5 3 1 R8)
noncomputable def Mk:XS:=(Al (B8 (xMt (Hp Di) (xD (.str s!"")) (A8 (xFz (C7 (xIt (Aa 0)) [] BD (Ai AH (xD (.str s!" ")) (Av (A8 (Aa 0) Af) NZ)))) Af))) Am)
theorem X0:AdS J0 Mk:=by delta J0 Mk;solve_by_elim []
noncomputable def Hs:XC:=Bc (By 1 0 Mk)
theorem X8:AdC IK Hs:=BC (C5 1 0 X0)
noncomputable def Ky:XS:=(Al (B8 (Av (A8 (Ay [622] s!"func_ids" (Aa 0)) (A8 (Aa 1) Af)) J8)) Am)
theorem V4:AdS HO Ky:=by delta HO Ky;solve_by_elim [Mw]
noncomputable def On:XC:=Bc (By 2 0 Ky)
theorem Vg:AdC JW On:=BC (C5 2 0 V4)
noncomputable def J3:XS:=(Al (B8 (Av (A8 (Ay [622] s!"local_ids" (Aa 0)) (A8 (Aa 1) Af)) J8)) Am)
theorem Te:AdS GS J3:=by delta GS J3;solve_by_elim [Mw]
noncomputable def N9:XC:=Bc (By 2 0 J3)
theorem Tm:AdC IG N9:=BC (C5 2 0 Te)
noncomputable def CA:XS:=(Al (DJ [2,3] (A8 (Ai AE (Aa 1) (xD (.int 0))) (A8 (xSl true (Aa 1) (xD (.int 1)) (xD .none)) Af))) (Al (DJ [4,5] (A8 (Av (A8 (Aa 2) Af) O1) (A8 (Av (A8 (Aa 2) Af) O0) Af))) (Al (AO (xTr (Ai (AF .Eq) (Aa 5) (xD (.str s!"block")))) (Al Fp Am) Am) (Al (AO (xTr (Ai (AF .Eq) (Aa 5) (xD (.str s!"func")))) (Al (B8 (Ai AH (Ai AH (Aa 4) (xD (.str s!" "))) (xMt (Bz s!"func" (mC 622 On mN)) (Aa 0) (A8 (Ai AE (Aa 3) (xD (.int 0))) Af)))) Am) Am) (Al (AO (xTr (Ai (AF .Eq) (Aa 5) (xD (.str s!"local")))) (Al (B8 (Ai AH (Ai AH (Aa 4) (xD (.str s!" "))) (xMt (Bz s!"local" (mC 622 N9 mN)) (Aa 0) (A8 (Ai AE (Aa 3) (xD (.int 0))) Af)))) Am) Am) (Al (AO (xTr (Ai (AF .Eq) (Aa 5) (xD (.str s!"indirect")))) (Al (B8 (Ai AH (Ai AH (Ai AH (Ai AH (Ai AH (Aa 4) (xD (.str s!" "))) (Av (A8 (Ai AE (Aa 3) (xD (.int 1))) Af) NZ)) (xD (.str s!" (type "))) (Av (A8 (Ai AE (Aa 3) (xD (.int 0))) Af) NZ)) (xD (.str s!")")))) Am) Am) (Al (AO (xTr (Ai (AF .Eq) (Aa 5) (xD (.str s!"memarg")))) (Al (B8 (Ai AH (Aa 4) (Av (A8 (Aa 2) (A8 (Ai AE (Aa 3) (xD (.int 0))) (A8 (Ai AE (Aa 3) (xD (.int 1))) Af))) LP))) Am) Am) (Al (AO (xTr (Ai (AF .Eq) (Aa 5) (xD (.str s!"refkind")))) (Al (B8 (Ai AH (Ai AH (Aa 4) (xD (.str s!" "))) (Ai AE (xD I6) (Ai AE (Aa 3) (xD (.int 0)))))) Am) Am) (Al (AO (xTr (Ai (AF .Eq) (Aa 5) (xD (.str s!"kinds")))) (Al (B8 (Ai AH (Aa 4) (xIf (xTr (Ai (AF .Eq) (Av (A8 (Aa 3) Af) BW) (xD (.int 0)))) (xD (.str s!" (result)")) (Av (A8 (xD (.str s!"result")) (A8 (Aa 3) Af)) Gg)))) Am) Am) (Al (AO (xTr (Ai (AF .Eq) (Aa 5) (xD (.str s!"table_init")))) (Al (B8 (Ai AH (Aa 4) (Av (A8 (AJ (A8 (Ai AE (Aa 3) (xD (.int 1))) (A8 (Ai AE (Aa 3) (xD (.int 0))) Af))) Af) Hs))) Am) Am) (Al (B8 (Ai AH (Aa 4) (Av (A8 (Aa 3) Af) Hs))) Am)))))))))))
theorem LU:AdS Dr CA:=by delta Dr CA;solve_by_elim [Vg,Tm,Zo,JT,Rm,Zp,X8]
noncomputable def B5:XC:=Bc (By 2 4 CA)
theorem ER:AdC Cy B5:=BC (C5 2 4 LU)
noncomputable def Gd:XS:=(Al (BL [622] s!"func_ids" (Aa 1) (Aa 0)) (Al (BL [622] s!"local_ids" (Aa 2) (Aa 0)) Am))
theorem V5:AdS HP Gd:=by delta HP Gd;solve_by_elim []
noncomputable def KJ:XC:=By 3 0 Gd
theorem Vh:AdC Ob KJ:=C5 3 0 V5
noncomputable def KI:XC:=Yi 622 KJ
theorem X3:AdC PG KI:=Zn 622 Vh
noncomputable def Ey:XS:=(Al (B8 (Av (A8 (xFz (Av (A8 (AJ Af) (A8 (AJ Af) Af)) KI)) (A8 (Aa 1) Af)) B5)) Am)
theorem L8:AdS Dc Ey:=by delta Dc Ey;solve_by_elim [X3,ER]
noncomputable def BB:XC:=Bc (By 2 0 Ey)
theorem Le:AdC Ep BB:=BC (C5 2 0 L8)
noncomputable def F0:XS:=(Al (Bm 3 (BX Af)) (Al (DL (xIt (xSl true (Aa 1) (xD .none) (ED (xD (.int 1))))) (BN 4) (Al (Bm 5 (Ai AE (Aa 4) (xD (.int 0)))) (Al (AO (xTr (Ai (AF .In) (Aa 5) (B2 (A8 (xD FL) (A8 (xD M0) Af))))) (Al Fp Am) Am) (Al (xSt (xMt (CR Hx) (Aa 3) (A8 (Ai AH (Ai Lz (xD Eb) (Aa 2)) (Av (A8 (Aa 0) (A8 (Aa 4) Af)) B5)) Af))) (Al (AO (xTr (Ai (AF .In) (Aa 5) (B2 (A8 (xD Ha) (A8 (xD IL) (A8 (xD PO) (A8 (xD FL) Af))))))) (Al Fp Am) Am) Am))))) (Al (B8 (xFz (Aa 3))) Am)))
theorem V6:AdS HQ F0:=by delta HQ F0;solve_by_elim [ER]
noncomputable def Gf:XC:=Bc (By 3 3 F0)
theorem Vi:AdC JX Gf:=BC (C5 3 3 V6)
noncomputable def Gy:XS:=(Al (B8 (xFz (C7 (xIt (Ay [443] s!"imports" (Aa 0))) [1] (xTr (Ai (AF .Eq) (Ay [192] s!"sort" (Aa 0)) (Aa 1))) (Ay [192] s!"about" (Aa 0))))) Am)
theorem Oq:AdS EM Gy:=by delta EM Gy;solve_by_elim []
noncomputable def GC:XC:=Bc (By 2 0 Gy)
theorem Je:AdC EK GC:=BC (C5 2 0 Oq)
noncomputable def Et:XS:=(Al (B8 (xFz (Ai AH (xMt (Bz s!"abouts" (mC 443 GC mN)) (Aa 0) (A8 (xD BU) Af)) (xFz (C7 (xIt (Ay [443] s!"funcs" (Aa 0))) [] BD (Ay [220] s!"kind" (Aa 0))))))) Am)
theorem L3:AdS D7 Et:=by delta D7 Et;solve_by_elim [Je]
noncomputable def GJ:XC:=Bc (By 1 0 Et)
theorem L9:AdC Ek GJ:=BC (C5 1 0 L3)
noncomputable def Kz:XS:=(Al (Bm 2 (Ai AE (Aa 1) (xD (.int 0)))) (Al (AO (xTr (Ai (AF .In) (Aa 2) (xD Ir))) (Al (B8 (Ai AE (xD Ir) (Aa 2))) Am) Am) (Al (AO (xTr (Ai (AF .Eq) (Aa 2) (xD TH))) (Al (Bm 3 (xMt (Bz s!"func_kinds" (mC 443 GJ mN)) (Aa 0) Af)) (Al (AO (DM (xTr (Ai (AF .GtE) (Ai AE (Aa 1) (xD (.int 1))) (Av (A8 (Aa 3) Af) BW))) (DM (xTr (Ai (AF .GtE) (Ai AE (Aa 3) (Ai AE (Aa 1) (xD (.int 1)))) (Av (A8 (Ay [443] s!"kinds" (Aa 0)) Af) BW))) E1)) (Al (B8 (xD .none)) Am) Am) (Al (Bm 4 (Ai AE (Ay [443] s!"kinds" (Aa 0)) (Ai AE (Aa 3) (Ai AE (Aa 1) (xD (.int 1)))))) (Al (B8 (B2 (A8 (Av (A8 (Ai AE (Aa 4) (xD (.int 0))) Af) BW) (A8 (Av (A8 (Ai AE (Aa 4) (xD (.int 1))) Af) BW) Af)))) Am)))) Am) (Al (AO (xTr (Ai (AF .Eq) (Aa 2) (xD FA))) (Al (AO (xTr (Ai (AF .GtE) (Ai AE (Aa 1) (xD (.int 1))) (Av (A8 (Ay [443] s!"kinds" (Aa 0)) Af) BW))) (Al (B8 (xD .none)) Am) Am) (Al (Bm 4 (Ai AE (Ay [443] s!"kinds" (Aa 0)) (Ai AE (Aa 1) (xD (.int 1))))) (Al (B8 (B2 (A8 (Ai AH (Av (A8 (Ai AE (Aa 4) (xD (.int 0))) Af) BW) (xD (.int 1))) (A8 (Av (A8 (Ai AE (Aa 4) (xD (.int 1))) Af) BW) Af)))) Am))) Am) (Al (Bm 5 (Av (A8 (Aa 2) Af) QZ)) (Al (B8 (xIf (xTr (Ai (AF .Is) (Aa 5) (xD .none))) (xD .none) (B2 (A8 (Av (A8 (Ai AE (Aa 5) (xD (.int 0))) Af) BW) (A8 (Av (A8 (Ai AE (Aa 5) (xD (.int 1))) Af) BW) Af))))) Am))))))
theorem V7:AdS HR Kz:=by delta HR Kz;solve_by_elim [L9,X7]
noncomputable def C9:XC:=Bc (By 2 4 Kz)
theorem O8:AdC HG C9:=BC (C5 2 4 V7)
noncomputable def Ew:XS:=(Al (Bm 1 (BX Af)) (Al (DL (xIt (Ay [443] s!"kinds" (Ay [864] s!"module" (Aa 0)))) (MI [2,3]) (Al (xSt (xMt (CR Hx) (Aa 1) (A8 (Ai AH (Ai AH (Ai AH (xD (.str s!"(type (func")) (Av (A8 (xD (.str s!"param")) (A8 (Aa 2) Af)) Gg)) (Av (A8 (xD (.str s!"result")) (A8 (Aa 3) Af)) Gg)) (xD (.str s!"))"))) Af))) Am)) (Al (B8 (xFz (Aa 1))) Am)))
theorem L6:AdS Da Ew:=by delta Da Ew;solve_by_elim [JT]
noncomputable def Dd:XC:=Bc (By 1 3 Ew)
theorem Lc:AdC En Dd:=BC (C5 1 3 L6)
noncomputable def EU:XS:=(Al (B8 (xIf (xTr (Ai (AF .NotEq) (Ai AE (Ay [864] s!"func_ids" (Aa 0)) (Aa 1)) (xD (.str s!"")))) (Ai AH (xD (.str s!" ")) (Ai AE (Ay [864] s!"func_ids" (Aa 0)) (Aa 1))) (xD (.str s!"")))) Am)
theorem LT:AdS Dq EU:=by delta Dq EU;solve_by_elim []
noncomputable def EV:XC:=Bc (By 2 0 EU)
theorem H4:AdC Dm EV:=BC (C5 2 0 LT)
noncomputable def E4:XS:=(Al (AO (xTr (Ai (AF .Eq) (Ay [192] s!"sort" (Aa 1)) (xD BU))) (Al (B8 (Ai AH (Ai AH (Ai AH (Ai AH (xD (.str s!"(func")) (xMt (Bz s!"id_ahead" (mC 864 EV mN)) (Aa 0) (A8 (Aa 2) Af))) (xD (.str s!" (type "))) (Av (A8 (Ay [192] s!"about" (Aa 1)) Af) NZ)) (xD (.str s!"))")))) Am) Am) (Al (AO (xTr (Ai (AF .Eq) (Ay [192] s!"sort" (Aa 1)) (xD PP))) (Al Fp Am) Am) (Al (AO (xTr (Ai (AF .Eq) (Ay [192] s!"sort" (Aa 1)) (xD Nu))) (Al Fp Am) Am) (Al Fp Am))))
theorem JK:AdS CO E4:=by delta CO E4;solve_by_elim [H4]
noncomputable def Ge:XC:=Bc (By 3 0 E4)
theorem JQ:AdC DQ Ge:=BC (C5 3 0 JK)
noncomputable def DD:XS:=(Al (DJ [1,2] (A8 (BX Af) (A8 (xD (.int 0)) Af))) (Al (DL (xIt (Ay [443] s!"imports" (Ay [864] s!"module" (Aa 0)))) (BN 3) (Al (Bm 4 (xMt (Bz s!"about_text" (mC 864 Ge mN)) (Aa 0) (A8 (Aa 3) (A8 (Aa 2) Af)))) (Al (xSt (xMt (CR Hx) (Aa 1) (A8 (Ai AH (Ai AH (Ai AH (Ai AH (Ai AH (Ai AH (xD (.str (Str.ofString "(i\u006dport "))) (Av (A8 (Ay [192] s!"place" (Aa 3)) Af) KK)) (xD (.str s!" "))) (Av (A8 (Ay [192] s!"name" (Aa 3)) Af) KK)) (xD (.str s!" "))) (Aa 4)) (xD (.str s!")"))) Af))) (Al (Bm 2 (Ai AH (Aa 2) (Av (A8 (Ai (AF .Eq) (Ay [192] s!"sort" (Aa 3)) (xD BU)) Af) yInt))) Am)))) (Al (B8 (xFz (Aa 1))) Am)))
theorem Jn:AdS CF DD:=by delta CF DD;solve_by_elim [JQ,Vl]
noncomputable def CI:XC:=Bc (By 1 4 DD)
theorem Jq:AdC DA CI:=BC (C5 1 4 Jn)
noncomputable def Ex:XS:=(Al (AO (xTr (Ai (AF .Is) (Ay [864] s!"names" (Aa 0)) (xD .none))) (Al (B8 (xFz (Ai Lz (AJ (A8 (xD (.str s!"")) Af)) (Aa 2)))) Am) Am) (Al Fp Am))
theorem L7:AdS Db Ex:=by delta Db Ex;solve_by_elim []
noncomputable def Cq:XC:=Bc (By 3 0 Ex)
theorem Ld:AdC Eo Cq:=BC (C5 3 0 L7)
noncomputable def Ft:XS:=(Al (B8 (Av (A8 (xMt (Bz s!"abouts" (mC 443 GC mN)) (Aa 0) (A8 (Aa 1) Af)) Af) BW)) Am)
theorem Mo:AdS DG Ft:=by delta DG Ft;solve_by_elim [Je]
noncomputable def C2:XC:=Bc (By 2 0 Ft)
theorem HE:AdC DE C2:=BC (C5 2 0 Mo)
noncomputable def Fu:XS:=(Al (AO (xTr (Ai (AF .Lt) (Ay [220] s!"kind" (Aa 1)) (Av (A8 (Ay [443] s!"kinds" (Ay [864] s!"module" (Aa 0))) Af) BW))) (Al (B8 (Ai AE (Ay [443] s!"kinds" (Ay [864] s!"module" (Aa 0))) (Ay [220] s!"kind" (Aa 1)))) Am) Am) (Al (B8 (B2 (A8 (B2 Af) (A8 (B2 Af) Af)))) Am))
theorem Mp:AdS DH Fu:=by delta DH Fu;solve_by_elim []
noncomputable def Cj:XC:=Bc (By 2 0 Fu)
theorem HF:AdC DF Cj:=BC (C5 2 0 Mp)
noncomputable def Eu:XS:=(Al (Bm 4 (Ai AH (Ai AH (Ai AH (Ai AH (xD (.str s!"(func")) (xMt (Bz s!"id_ahead" (mC 864 EV mN)) (Aa 0) (A8 (Aa 1) Af))) (xD (.str s!" (type "))) (Av (A8 (Ay [220] s!"kind" (Aa 2)) Af) NZ)) (xD (.str s!")")))) (Al (WI [5,6] (xMt (Bz s!"kind_of" (mC 864 Cj mN)) (Aa 0) (A8 (Aa 2) Af))) (Al (AO (xTr (Av (A8 (xFz (C7 (xIt (xSl true (Aa 3) (xD .none) (Av (A8 (Aa 5) Af) BW))) [] BD (Ai (AF .NotEq) (Aa 0) (xD (.str s!""))))) Af) yAny)) (Al Fp (Al Fp Am)) Am) (Al (Bm 9 (xSl true (Aa 3) (Av (A8 (Aa 5) Af) BW) (xD .none))) (Al (AO (xTr (Av (A8 (xFz (C7 (xIt (Aa 9)) [] BD (Ai (AF .Eq) (Aa 0) (xD (.str s!""))))) Af) yAll)) (Al (B8 (Ai AH (Aa 4) (Av (A8 (xD (.str s!"local")) (A8 (Ay [220] s!"locals" (Aa 2)) Af)) Gg))) Am) Am) (Al Fp (Al (B8 (Aa 4)) Am)))))))
theorem L5:AdS D9 Eu:=by delta D9 Eu;solve_by_elim [H4,HF,JT]
noncomputable def Cp:XC:=Bc (By 4 6 Eu)
theorem Lb:AdC Em Cp:=BC (C5 4 6 L5)
noncomputable def Fq:XS:=(Al (xSt (xMt (CR Hx) (Ay [744] s!"rows" (Aa 0)) (A8 (Ai AH (Ai Lz (xD Eb) (Ay [744] s!"depth" (Aa 0))) (Aa 1)) Af))) Am)
theorem Tb:AdS GQ Fq:=by delta GQ Fq;solve_by_elim []
noncomputable def BF:XC:=By 2 0 Fq
theorem Mv:AdC F9 BF:=C5 2 0 Tb
noncomputable def E2:XS:=(Al (DL (xIt (Ay [744] s!"values" (Aa 0))) (BN 1) (Al (xSt (xMt (Bz s!"row" (mC 744 BF mN)) (Aa 0) (A8 (Aa 1) Af))) Am)) (Al (BL [744] s!"values" (BX Af) (Aa 0)) Am))
theorem Pf:AdS Fh E2:=by delta Fh E2;solve_by_elim [Mv]
noncomputable def Bv:XC:=By 1 1 E2
theorem JP:AdC DP Bv:=C5 1 1 Pf
noncomputable def Gx:XS:=(Al (DJ [2,3] (A8 (Av (A8 (Ay [744] s!"told" (Aa 0)) (A8 (Aa 1) Af)) B5) (A8 (Av (A8 (Ay [744] s!"module" (Aa 0)) (A8 (Aa 1) Af)) C9) Af))) (Al (AO (DM (xTr (Ai (AF .Is) (Aa 3) (xD .none))) (DM (xTr (Ai (AF .Gt) (Ai AE (Aa 3) (xD (.int 0))) (Av (A8 (Ay [744] s!"values" (Aa 0)) Af) BW))) E1)) (Al (xSt (xMt (Bz s!"flush" (mC 744 Bv mN)) (Aa 0) Af)) (Al (xSt (xMt (Bz s!"row" (mC 744 BF mN)) (Aa 0) (A8 (Aa 2) Af))) (Al (B8 (xD .none)) Am))) Am) (Al (Bm 4 (Ai J2 (Av (A8 (Ay [744] s!"values" (Aa 0)) Af) BW) (Ai AE (Aa 3) (xD (.int 0))))) (Al (Bm 5 (Ai AH (Ai AH (xD (.str s!"(")) (xMt (Hp Di) (xD (.str s!" ")) (A8 (Ai AH (AJ (A8 (Aa 2) Af)) (xSl true (Ay [744] s!"values" (Aa 0)) (Aa 4) (xD .none))) Af))) (xD (.str s!")")))) (Al (BL [744] s!"values" (xSl false (Ay [744] s!"values" (Aa 0)) (xD .none) (Aa 4)) (Aa 0)) (Al (AO (xTr (Ai (AF .Eq) (Ai AE (Aa 3) (xD (.int 1))) (xD (.int 1)))) (Al (xSt (xMt (CR Hx) (Ay [744] s!"values" (Aa 0)) (A8 (Aa 5) Af))) Am) (Al (xSt (xMt (Bz s!"flush" (mC 744 Bv mN)) (Aa 0) Af)) (Al (xSt (xMt (Bz s!"row" (mC 744 BF mN)) (Aa 0) (A8 (Aa 5) Af))) Am))) Am))))))
theorem Op:AdS EL Gx:=by delta EL Gx;solve_by_elim [JP,Mv,O8,ER]
noncomputable def C8:XC:=By 2 4 Gx
theorem Ot:AdC Gj C8:=C5 2 4 Op
noncomputable def EE:XS:=(Al (DL (xIt (xSl true (Aa 1) (xD .none) (ED (xD (.int 1))))) (BN 2) (Al (Bm 3 (Ai AE (Aa 2) (xD (.int 0)))) (Al (AO (xTr (Ai (AF .In) (Aa 3) (B2 (A8 (xD Ha) (A8 (xD IL) (A8 (xD PO) Af)))))) (Al Fp Am) (Al (AO (xTr (Ai (AF .Eq) (Aa 3) (xD FL))) (Al Fp Am) (Al (AO (xTr (Ai (AF .Eq) (Aa 3) (xD M0))) (Al Fp Am) (Al (xSt (xMt (Bz s!"single" (mC 744 C8 mN)) (Aa 0) (A8 (Aa 2) Af))) Am)) Am)) Am)) Am))) (Al (xSt (xMt (Bz s!"flush" (mC 744 Bv mN)) (Aa 0) Af)) (Al (B8 (xFz (Ay [744] s!"rows" (Aa 0)))) Am)))
theorem R1:AdS FN EE:=by delta FN EE;solve_by_elim [JP,Ot]
noncomputable def Ct:XC:=By 2 2 EE
theorem Re:AdC I1 Ct:=C5 2 2 R1
noncomputable def Ig:XS:=(Al (BL [744] s!"module" (Aa 1) (Aa 0)) (Al (BL [744] s!"told" (Aa 2) (Aa 0)) (Al (BL [744] s!"depth" (Aa 3) (Aa 0)) (Al (BL [744] s!"rows" (BX Af) (Aa 0)) (Al (BL [744] s!"values" (BX Af) (Aa 0)) (Al (BL [744] s!"closers" (AJ Af) (Aa 0)) Am))))))
theorem R2:AdS FO Ig:=by delta FO Ig;solve_by_elim []
noncomputable def LL:XC:=By 4 0 Ig
theorem Rf:AdC LD LL:=C5 4 0 R2
noncomputable def KF:XC:=Yi 744 LL
theorem A02:AdC PC KF:=Zn 744 Rf
noncomputable def C4:XS:=(Al (Bm 3 (Ai AH (xMt (Bz s!"imported" (mC 443 C2 mN)) (Ay [864] s!"module" (Aa 0)) (A8 (xD BU) Af)) (Aa 1))) (Al (Bm 4 (xMt (Bz s!"local_ids" (mC 864 Cq mN)) (Aa 0) (A8 (Aa 3) (A8 (Ai AH (Av (A8 (Ai AE (xMt (Bz s!"kind_of" (mC 864 Cj mN)) (Aa 0) (A8 (Aa 2) Af)) (xD (.int 0))) Af) BW) (Av (A8 (Ay [220] s!"locals" (Aa 2)) Af) BW)) Af)))) (Al (Bm 5 (xFz (Av (A8 (Ay [864] s!"func_ids" (Aa 0)) (A8 (Aa 4) Af)) KI))) (Al (Bm 6 (BX (A8 (xMt (Bz s!"head_text" (mC 864 Cp mN)) (Aa 0) (A8 (Aa 3) (A8 (Aa 2) (A8 (Aa 4) Af)))) Af))) (Al (AO (xTr (Ay [864] s!"is_folded" (Aa 0))) (Al (xSt (xMt (CR Hq) (Aa 6) (A8 (xMt (Bz s!"fold" (mC 744 Ct mN)) (Av (A8 (Ay [864] s!"module" (Aa 0)) (A8 (Aa 5) (A8 (xD (.int 1)) Af))) KF) (A8 (Ay [220] s!"body" (Aa 2)) Af)) Af))) Am) (Al (xSt (xMt (CR Hq) (Aa 6) (A8 (Av (A8 (Aa 5) (A8 (Ay [220] s!"body" (Aa 2)) (A8 (xD (.int 1)) Af))) Gf) Af))) Am)) (Al (B8 (xFz (Ai AH (Aa 6) (AJ (A8 (xD (.str s!")")) Af))))) Am))))))
theorem L4:AdS D8 C4:=by delta D8 C4;solve_by_elim [A02,Re,HE,Lb,HF,Ld,X3,Vi]
noncomputable def AS:XC:=Bc (By 3 4 C4)
theorem La:AdC El AS:=BC (C5 3 4 L4)
noncomputable def DB:XS:=(Al (Bm 1 (BX Af)) (Al (DL (xIt (Ay [443] s!"exports" (Ay [864] s!"module" (Aa 0)))) (MI [2,3,4]) (Al Fp (Al Fp Am))) (Al (AO (xTr (Ai (AF .IsNot) (Ay [443] s!"start" (Ay [864] s!"module" (Aa 0))) (xD .none))) (Al Fp Am) Am) (Al (B8 (xFz (Aa 1))) Am))))
theorem Jl:AdS CC DB:=by delta CC DB;solve_by_elim []
noncomputable def CG:XC:=Bc (By 1 5 DB)
theorem Jo:AdC Dy CG:=BC (C5 1 5 Jl)
noncomputable def E6:XS:=(Al (Bm 1 (C7 (xIt (Ay [443] s!"tables" (Ay [864] s!"module" (Aa 0)))) [] BD xNo)) (Mi 1 (Al (B8 (xFz (Ai AH (Aa 1) (xFz (C7 (xIt (Ay [443] s!"memories" (Ay [864] s!"module" (Aa 0)))) [] BD xNo))))) Am)))
theorem JL:AdS CP E6:=by delta CP E6;solve_by_elim []
noncomputable def CU:XC:=Bc (By 1 1 E6)
theorem JR:AdC DR CU:=BC (C5 1 1 JL)
noncomputable def DC:XS:=(Al (Bm 1 (BX Af)) (Al (DL (xIt (Ay [443] s!"globals" (Ay [864] s!"module" (Aa 0)))) (BN 2) (Al Fp (Al Fp Am))) (Al (B8 (xFz (Aa 1))) Am)))
theorem Jm:AdS CD DC:=by delta CD DC;solve_by_elim []
noncomputable def CH:XC:=Bc (By 1 3 DC)
theorem Jp:AdC Dz CH:=BC (C5 1 3 Jm)
noncomputable def Hn:XS:=(Al (Bm 1 (xIf (DM (xTr (Ai (AF .Is) (Ay [864] s!"names" (Aa 0)) (xD .none))) (DM xNo E1)) Yd xNo)) (Al (Bm 2 (Ai AE (Av (A8 (Aa 1) (A8 (xD (.int 1)) Af)) QY) (xD (.int 0)))) (Al (B8 (xIf (xTr (Ai (AF .Eq) (Aa 2) (xD (.str s!"")))) (xD Hb) xNo)) Am)))
theorem Pk:AdS Fm Hn:=by delta Fm Hn;solve_by_elim [Vj]
noncomputable def Fv:XC:=Bc (By 1 2 Hn)
theorem Px:AdC H7 Fv:=BC (C5 1 2 Pk)
noncomputable def E7:XS:=(Al (Bm 1 (Ai AH (xMt (Bz s!"kind_rows" (mC 864 Dd mN)) (Aa 0) Af) (xMt (Bz s!"import_rows" (mC 864 CI mN)) (Aa 0) Af))) (Al (DL (T4 (Ay [443] s!"funcs" (Ay [864] s!"module" (Aa 0)))) (MI [2,3]) (Al (xSt (xMt (CR Hq) (Aa 1) (A8 (xMt (Bz s!"func_rows" (mC 864 AS mN)) (Aa 0) (A8 (Aa 2) (A8 (Aa 3) Af))) Af))) Am)) (Al (xSt (xMt (CR Hq) (Aa 1) (A8 (Ai AH (Ai AH (xMt (Bz s!"small_rows" (mC 864 CU mN)) (Aa 0) Af) (xMt (Bz s!"global_rows" (mC 864 CH mN)) (Aa 0) Af)) (xMt (Bz s!"export_rows" (mC 864 CG mN)) (Aa 0) Af)) Af))) (Al (xSt (xMt (CR Hq) (Aa 1) (A8 (C7 (xIt (Ay [443] s!"elems" (Ay [864] s!"module" (Aa 0)))) [] BD xNo) Af))) (Al (xSt (xMt (CR Hq) (Aa 1) (A8 (C7 (xIt (Ay [443] s!"datas" (Ay [864] s!"module" (Aa 0)))) [] BD xNo) Af))) (Al (B8 (Ai AH (xMt (Hp Di) (xD (.str (Str.ofString "\n"))) (A8 (Ai AH (Ai AH (AJ (A8 (xMt (Bz s!"mark" (mC 864 Fv mN)) (Aa 0) Af) Af)) (C7 (xIt (Aa 1)) [] BD (Ai AH (xD Eb) (Aa 0)))) (AJ (A8 (xD (.str s!")")) Af))) Af)) (xD (.str (Str.ofString "\n"))))) Am))))))
theorem Pn:AdS Fn E7:=by delta Fn E7;solve_by_elim [Jo,La,Jp,Jq,Lc,Px,JR]
noncomputable def Cg:XC:=Bc (By 1 3 E7)
theorem JS:AdC Fb Cg:=BC (C5 1 3 Pn)
noncomputable def Ij:XS:=(Al (Bm 2 (Ai AE (AJ (A8 (Ay [443] s!"funcs" (Aa 0)) (A8 (Ay [443] s!"tables" (Aa 0)) (A8 (Ay [443] s!"memories" (Aa 0)) (A8 (Ay [443] s!"globals" (Aa 0)) Af))))) (Aa 1))) (Al (B8 (Ai AH (xMt (Bz s!"imported" (mC 443 C2 mN)) (Aa 0) (A8 (Aa 1) Af)) (Av (A8 (Aa 2) Af) BW))) Am))
theorem R5:AdS FR Ij:=by delta FR Ij;solve_by_elim [HE]
noncomputable def LO:XC:=Bc (By 2 1 Ij)
theorem Ri:AdC I2 LO:=BC (C5 2 1 R5)
noncomputable def Hm:XS:=(Al (BL [864] s!"module" (Aa 1) (Aa 0)) (Al (BL [864] s!"names" (Aa 2) (Aa 0)) (Al (BL [864] s!"is_folded" (Aa 3) (Aa 0)) (Al (Bm 4 (xIf (xTr (Ai (AF .Is) (Aa 2) (xD .none))) Yd xNo)) (Al (BL [864] s!"func_ids" (Av (A8 (Aa 4) (A8 (xMt (Bz s!"many" (mC 443 LO mN)) (Aa 1) (A8 (xD BU) Af)) Af)) QY) (Aa 0)) (Al (BL [864] s!"plain_told" (xFz (Av (A8 (Ay [864] s!"func_ids" (Aa 0)) (A8 (AJ Af) Af)) KI)) (Aa 0)) Am))))))
theorem Pj:AdS Fk Hm:=by delta Fk Hm;solve_by_elim [Ri,X3,Vj]
noncomputable def KH:XC:=By 4 1 Hm
theorem Pw:AdC JV KH:=C5 4 1 Pj
noncomputable def L2:XC:=Yi 864 KH
theorem Sn:AdC KP L2:=Zn 864 Pw
noncomputable def E8:XS:=(Al (B8 (xMt (Bz s!"text" (mC 864 Cg mN)) (xFz (Av (A8 (Aa 0) (A8 (Aa 1) (A8 (xD (.bool false)) Af))) L2)) Af)) Am)
theorem Po:AdS Fo E8:=by delta Fo E8;solve_by_elim [Sn,JS]
noncomputable def Dk:XC:=Bc (WJ 2 [.none] 0 E8)
theorem Py:AdC H8 Dk:=BC (A4I 2 [.none] 0 Po)
noncomputable def EF:XS:=(Al (B8 (xMt (Bz s!"text" (mC 864 Cg mN)) (xFz (Av (A8 (Aa 0) (A8 (Aa 1) (A8 (xD (.bool true)) Af))) L2)) Af)) Am)
theorem R6:AdS FT EF:=by delta FT EF;solve_by_elim [Sn,JS]
noncomputable def Dx:XC:=Bc (WJ 2 [.none] 0 EF)
theorem Rj:AdC I3 Dx:=BC (A4I 2 [.none] 0 R6)
noncomputable def Ho:XS:=(Al (B8 (AJ (A8 (B2 (A8 (xD (.int 65)) (A8 (Ai J2 (Ai Ch (Aa 0) (xD (.int 5))) (xD (.int 2))) Af))) (A8 (B2 (A8 (xD (.int 65)) (A8 (Ai Ch (Aa 0) (xD (.int 3))) Af))) (A8 (B2 (A8 (xD (.int 66)) (A8 (Ai J2 (Ai Ch (Aa 0) (xD (.int 7))) (xD (.int 3))) Af))) (A8 (B2 (A8 (xD (.int 32)) (A8 (Ai Ch (Aa 0) (xD (.int 2))) Af))) (A8 (B2 (A8 (xD (.int 32)) (A8 (Ai Ch (Ai JC (Aa 0) (xD (.int 2))) (xD (.int 2))) Af))) (A8 (B2 (A8 (xD (.int 35)) (A8 (Ai Ch (Aa 0) (xD (.int 3))) Af))) (A8 (B2 (A8 (xD (.int 36)) (A8 (Ai Ch (Aa 0) (xD (.int 3))) Af))) (A8 (B2 (A8 (xD (.int 33)) (A8 (Ai Ch (Aa 0) (xD (.int 2))) Af))) (A8 (B2 (A8 (xD (.int 34)) (A8 (Ai Ch (Aa 0) (xD (.int 2))) Af))) (A8 (B2 (A8 (xD (.int 26)) Af)) (A8 (B2 (A8 (xD (.int 27)) Af)) (A8 (B2 (A8 (xD (.int 28)) (A8 (Ai AE (B2 (A8 (ED (xD (.int 1))) (A8 (ED (xD (.int 2))) (A8 (ED (xD (.int 16))) Af)))) (Ai Ch (Aa 0) (xD (.int 3)))) Af))) (A8 (B2 (A8 (xD (.int 16)) (A8 (Ai Ch (Aa 0) (xD (.int 5))) Af))) (A8 (B2 (A8 (xD (.int 16)) (A8 (Ai Ch (Aa 0) (xD (.int 5))) Af))) (A8 (B2 (A8 (xD (.int 16)) (A8 (Ai Ch (Ai JC (Aa 0) (xD (.int 5))) (xD (.int 5))) Af))) (A8 (B2 (A8 (xD (.int 17)) (A8 (Ai Ch (Aa 0) (xD (.int 5))) (A8 (Ai Ch (Ai JC (Aa 0) (xD (.int 5))) (xD (.int 2))) Af)))) (A8 (B2 (A8 (xD (.int 17)) (A8 (Ai Ch (Ai JC (Aa 0) (xD (.int 2))) (xD (.int 5))) (A8 (Ai Ch (Aa 0) (xD (.int 2))) Af)))) (A8 (B2 (A8 (xD (.int 106)) Af)) (A8 (B2 (A8 (xD (.int 124)) Af)) (A8 (B2 (A8 (xD (.int 69)) Af)) (A8 (B2 (A8 (xD (.int 172)) Af)) (A8 (B2 (A8 (xD (.int 40)) (A8 (Ai Ch (Aa 0) (xD (.int 3))) (A8 (Ai Ch (Ai JC (Aa 0) (xD (.int 3))) (xD (.int 3))) Af)))) (A8 (B2 (A8 (xD (.int 54)) (A8 (Ai Ch (Aa 0) (xD (.int 3))) (A8 (Ai Ch (Ai JC (Aa 0) (xD (.int 3))) (xD (.int 2))) Af)))) (A8 (B2 (A8 (xD (.int 63)) Af)) (A8 (B2 (A8 (xD (.int 64)) Af)) (A8 (B2 (A8 (xD (.int 37)) (A8 (Ai Ch (Aa 0) (xD (.int 2))) Af))) (A8 (B2 (A8 (xD (.int 38)) (A8 (Ai Ch (Aa 0) (xD (.int 2))) Af))) (A8 (B2 (A8 (xD (.int 208)) (A8 (Ai AE (B2 (A8 (ED (xD (.int 16))) (A8 (ED (xD (.int 17))) Af))) (Ai Ch (Aa 0) (xD (.int 2)))) Af))) (A8 (B2 (A8 (xD (.int 209)) Af)) (A8 (B2 (A8 (xD (.int 210)) (A8 (Ai Ch (Aa 0) (xD (.int 5))) Af))) (A8 (B2 (A8 (xD (.int 64520)) (A8 (Ai Ch (Aa 0) (xD (.int 2))) Af))) (A8 (B2 (A8 (xD (.int 64521)) (A8 (Ai Ch (Aa 0) (xD (.int 2))) Af))) (A8 (B2 (A8 (xD (.int 64522)) Af)) (A8 (B2 (A8 (xD (.int 64523)) Af)) (A8 (B2 (A8 (xD (.int 64524)) (A8 (Ai Ch (Aa 0) (xD (.int 2))) (A8 (Ai Ch (Ai JC (Aa 0) (xD (.int 2))) (xD (.int 2))) Af)))) (A8 (B2 (A8 (xD (.int 64525)) (A8 (Ai Ch (Aa 0) (xD (.int 2))) Af))) (A8 (B2 (A8 (xD (.int 64526)) (A8 (Ai Ch (Aa 0) (xD (.int 2))) (A8 (Ai Ch (Ai JC (Aa 0) (xD (.int 2))) (xD (.int 2))) Af)))) (A8 (B2 (A8 (xD (.int 64527)) (A8 (Ai Ch (Aa 0) (xD (.int 2))) Af))) (A8 (B2 (A8 (xD (.int 64528)) (A8 (Ai Ch (Aa 0) (xD (.int 2))) Af))) (A8 (B2 (A8 (xD (.int 64529)) (A8 (Ai Ch (Aa 0) (xD (.int 2))) Af))) (A8 (B2 (A8 (xD (.int 12)) (A8 (xD (.int 0)) Af))) (A8 (B2 (A8 (xD (.int 13)) (A8 (xD (.int 0)) Af))) (A8 (B2 (A8 (xD (.int 14)) (A8 (xD (.int 0)) (A8 (xD (.int 0)) Af)))) (A8 (B2 (A8 (xD (.int 15)) Af)) (A8 (B2 (A8 (xD (.int 0)) Af)) (A8 (B2 (A8 (xD (.int 1)) Af)) (A8 (B2 (A8 (xD (.int 18)) (A8 (Ai Ch (Aa 0) (xD (.int 5))) Af))) (A8 (B2 (A8 (xD (.int 19)) (A8 (Ai Ch (Aa 0) (xD (.int 5))) (A8 (Ai Ch (Ai JC (Aa 0) (xD (.int 5))) (xD (.int 2))) Af)))) (A8 (B2 (A8 (xD (.int 65)) (A8 (Ai Ch (Aa 0) (xD (.int 9999))) Af))) (A8 (B2 (A8 (xD (.int 106)) Af)) Af)))))))))))))))))))))))))))))))))))))))))))))))))))) Am)
theorem WX:AdS IX Ho:=by delta IX Ho;solve_by_elim []
noncomputable def Hr:XC:=Bc (By 1 0 Ho)
theorem X5:AdC LX Hr:=BC (C5 1 0 WX)
noncomputable def J5:XS:=(Al (AO (xTr (Ai (AF .In) (Ai AE (Aa 0) (xD (.int 0))) (B2 (A8 (xD (.int 16)) (A8 (xD (.int 17)) Af))))) (Al (Bm 2 (Ai AE (Aa 0) (xD (.int 1)))) (Al (AO (xTr (Ai (AF .Eq) (Ai AE (Aa 0) (xD (.int 0))) (xD (.int 16)))) (Al (Bm 2 (xIf (xTr (Ai (AF .Lt) (Aa 2) (Av (A8 (Aa 1) Af) BW))) (Ai AE (Aa 1) (Aa 2)) (Av (A8 (xD BR) Af) BW))) Am) Am) (Al (AO (xTr (Ai (AF .GtE) (Aa 2) (Av (A8 (xD BR) Af) BW))) (Al (B8 (xD .none)) Am) Am) (Al (B8 (B2 (A8 (Ai J2 (Ai AH (Av (A8 (Ai AE (Ai AE (xD BR) (Aa 2)) (xD (.int 0))) Af) BW) (Ai AE (Aa 0) (xD (.int 0)))) (xD (.int 16))) (A8 (Av (A8 (Ai AE (Ai AE (xD BR) (Aa 2)) (xD (.int 1))) Af) BW) Af)))) Am)))) Am) (Al (DL (xIt (xD K2)) (MI [3,4]) (Al (AO (xTr (Ai (AF .In) (Ai AE (Aa 0) (xD (.int 0))) (Aa 4))) (Al (B8 (Aa 3)) Am) Am) Am)) (Al (B8 (xD .none)) Am)))
theorem Tg:AdS GU J5:=by delta GU J5;solve_by_elim []
noncomputable def CV:XC:=Bc (By 2 3 J5)
theorem To:AdC II CV:=BC (C5 2 3 Tg)
noncomputable def GX:XS:=(Al (DJ [2,3] (A8 (AJ Af) (A8 (AJ Af) Af))) (Al (DL (Ic (Av (A8 (Aa 0) Af) BW)) (BN 4) (Al (AO (DM (xTr (Ai (AF .Is) (Ai AE (Aa 1) (Aa 4)) (xD .none))) (DM (xTr (Ai (AF .Gt) (Ai AE (Ai AE (Aa 1) (Aa 4)) (xD (.int 0))) (Av (A8 (Aa 3) Af) BW))) E1)) (Al (DJ [2,3] (A8 (xFz (Ai AH (xFz (Ai AH (Aa 2) (Aa 3))) (AJ (A8 (Ai AE (Aa 0) (Aa 4)) Af)))) (A8 (AJ Af) Af))) Am) (Al (Bm 5 (Ai J2 (Av (A8 (Aa 3) Af) BW) (Ai AE (Ai AE (Aa 1) (Aa 4)) (xD (.int 0))))) (Al (Bm 6 (Ai AH (Ai AH (xD (.str s!"(")) (xMt (Hp Di) (xD (.str s!" ")) (A8 (xFz (Ai AH (AJ (A8 (Ai AE (Aa 0) (Aa 4)) Af)) (xSl true (Aa 3) (Aa 5) (xD .none)))) Af))) (xD (.str s!")")))) (Al (Bm 3 (xFz (Ai AH (xSl true (Aa 3) (xD .none) (Aa 5)) (AJ (A8 (Aa 6) Af))))) (Al (AO (xTr (Ai (AF .NotEq) (Ai AE (Ai AE (Aa 1) (Aa 4)) (xD (.int 1))) (xD (.int 1)))) (Al (DJ [2,3] (A8 (xFz (Ai AH (Aa 2) (Aa 3))) (A8 (AJ Af) Af))) Am) Am) Am))))) Am)) (Al (B8 (xFz (Ai AH (Aa 2) (Aa 3)))) Am)))
theorem Th:AdS GV GX:=by delta GV GX;solve_by_elim []
noncomputable def Ef:XC:=Bc (By 2 5 GX)
theorem Tp:AdC IJ Ef:=BC (C5 2 5 Th)
noncomputable def FE:XS:=(Al (AO (xTr (Ai (AF .NotEq) (Ai AE (Aa 0) (xD (.int 0))) (xD (.str s!"(")))) (Al (B8 (xFz (BX (A8 (Aa 0) Af)))) Am) Am) (Al (Bm 1 (BX (A8 (BX (A8 (BX Af) (A8 (BX Af) Af))) Af))) (Al (DL (xIt (xMt (Hp KE) (Om s!")" s!" ) " (Om s!"(" s!" ( " (Aa 0))) Af)) (BN 2) (Al (AO (xTr (Ai (AF .Eq) (Aa 2) (xD (.str s!"(")))) (Al (xSt (xMt (CR Hx) (Aa 1) (A8 (BX (A8 (BX Af) (A8 (BX Af) Af))) Af))) Am) (Al (AO (xTr (Ai (AF .Eq) (Aa 2) (xD (.str s!")")))) (Al (WI [3,4] (xMt (CR Yn) (Aa 1) Af)) (Al (AO (xTr (Ai (AF .In) (Ai AE (Aa 3) (xD (.int 0))) (B2 (A8 (xD (.str s!"type")) (A8 (xD (.str s!"result")) Af))))) (Al (xSt (xMt (CR Hx) (Ai AE (Ai AE (Aa 1) (ED (xD (.int 1)))) (xD (.int 0))) (A8 (Ai AH (Ai AH (xD (.str s!"(")) (xMt (Hp Di) (xD (.str s!" ")) (A8 (Aa 3) Af))) (xD (.str s!")"))) Af))) Am) (Al (xSt (xMt (CR Hq) (Ai AE (Ai AE (Aa 1) (ED (xD (.int 1)))) (xD (.int 1))) (A8 (Ai AH (Aa 4) (BX (A8 (xMt (Hp Di) (xD (.str s!" ")) (A8 (Aa 3) Af)) Af))) Af))) Am)) Am)) (Al (xSt (xMt (CR Hx) (Ai AE (Ai AE (Aa 1) (ED (xD (.int 1)))) (xD (.int 0))) (A8 (Aa 2) Af))) Am)) Am)) Am)) (Al (B8 (xFz (Ai AE (Ai AE (Aa 1) (xD (.int 0))) (xD (.int 1))))) Am))))
theorem WW:AdS IW FE:=by delta IW FE;solve_by_elim []
noncomputable def E9:XC:=Bc (By 1 4 FE)
theorem X4:AdC LW E9:=BC (C5 1 4 WW)
noncomputable def EG:XS:=(Al (Bm 1 (xFz (xMt (Hp KE) (Aa 0) (A8 (xD (.str (Str.ofString "\n"))) Af)))) (Al (Bm 2 (xMt (CR KD) (Aa 1) (A8 (xD (.str s!"  (func (type 0) (local i32 i64)")) Af))) (Al (Bm 3 (xSl true (Aa 1) (Ai AH (Aa 2) (xD (.int 1))) (xMt (CR KD) (Aa 1) (A8 (xD (.str s!"  )")) (A8 (Aa 2) Af))))) (Al (AO (xTr (Ai (AF .NotEq) (xFz (C7 (xIt (Aa 3)) [] (DM (xTr (Ai (AF .NotEq) (xSl true (Aa 0) (xD .none) (xD (.int 4))) (xD (.str s!"    ")))) (DM (xTr (Ai (AF .Eq) (xSl true (Aa 0) (xD (.int 4)) (xD (.int 5))) (xD (.str s!" ")))) E1)) (Aa 0))) (AJ Af))) (Al (B8 (xD .none)) Am) Am) (Al (B8 (xFz (C7 (xIt (Aa 3)) [] BD (xSl true (Aa 0) (xD (.int 4)) (xD .none))))) Am)))))
theorem R7:AdS FU EG:=by delta FU EG;solve_by_elim []
noncomputable def BZ:XC:=Bc (By 1 3 EG)
theorem Rk:AdC FH BZ:=BC (C5 1 3 R7)
noncomputable def Ii:XS:=(Al (BL [443] s!"kinds" (AJ Af) (Aa 0)) (Al (BL [443] s!"imports" (AJ Af) (Aa 0)) (Al (BL [443] s!"funcs" (AJ Af) (Aa 0)) (Al (BL [443] s!"tables" (AJ Af) (Aa 0)) (Al (BL [443] s!"memories" (AJ Af) (Aa 0)) (Al (BL [443] s!"globals" (AJ Af) (Aa 0)) (Al (BL [443] s!"exports" (AJ Af) (Aa 0)) (Al (BL [443] s!"start" (xD .none) (Aa 0)) (Al (BL [443] s!"elems" (AJ Af) (Aa 0)) (Al (BL [443] s!"datas" (AJ Af) (Aa 0)) (Al (BL [443] s!"customs" (AJ Af) (Aa 0)) Am)))))))))))
theorem R4:AdS FQ Ii:=by delta FQ Ii;solve_by_elim []
noncomputable def LN:XC:=By 1 0 Ii
theorem Rh:AdC LF LN:=C5 1 0 R4
noncomputable def QX:XC:=Yi 443 LN
theorem A04:AdC PF QX:=Zn 443 Rh
noncomputable def Ih:XS:=(Al (BL [192] s!"place" (Aa 1) (Aa 0)) (Al (BL [192] s!"name" (Aa 2) (Aa 0)) (Al (BL [192] s!"sort" (Aa 3) (Aa 0)) (Al (BL [192] s!"about" (Aa 4) (Aa 0)) Am))))
theorem R3:AdS FP Ih:=by delta FP Ih;solve_by_elim []
noncomputable def LM:XC:=By 5 0 Ih
theorem Rg:AdC LE LM:=C5 5 0 R3
noncomputable def QW:XC:=Yi 192 LM
theorem A03:AdC PE QW:=Zn 192 Rg
noncomputable def Gc:XS:=(Al (BL [220] s!"kind" (Aa 1) (Aa 0)) (Al (BL [220] s!"locals" (Aa 2) (Aa 0)) (Al (BL [220] s!"body" (Aa 3) (Aa 0)) Am)))
theorem V3:AdS HN Gc:=by delta HN Gc;solve_by_elim []
noncomputable def KG:XC:=By 4 0 Gc
theorem Vf:AdC Oa KG:=C5 4 0 V3
noncomputable def GB:XC:=Yi 220 KG
theorem A5U:AdC PD GB:=Zn 220 Vf
noncomputable def E3:XS:=(Al (Bm 1 (AJ (A8 (Av (A8 (Ay [443] s!"kinds" (Aa 0)) Af) GA) (A8 (Av (A8 (Ay [443] s!"imports" (Aa 0)) Af) CX) (A8 (Av (A8 (Ay [443] s!"funcs" (Aa 0)) Af) CX) (A8 (Av (A8 (Ay [443] s!"tables" (Aa 0)) Af) GA) Af)))))) (Al (Bm 1 (xFz (Ai AH (Aa 1) (AJ (A8 (Av (A8 (Ay [443] s!"memories" (Aa 0)) Af) GA) (A8 (Av (A8 (Ay [443] s!"globals" (Aa 0)) Af) CX) (A8 (Av (A8 (Ay [443] s!"exports" (Aa 0)) Af) GA) (A8 (Ay [443] s!"start" (Aa 0)) Af)))))))) (Al (B8 (Av (A8 (xFz (Ai AH (Aa 1) (AJ (A8 (Av (A8 (Ay [443] s!"elems" (Aa 0)) Af) CX) (A8 (Av (A8 (Ay [443] s!"datas" (Aa 0)) Af) CX) (A8 (Av (A8 (Ay [443] s!"customs" (Aa 0)) Af) CX) Af)))))) Af) GA)) Am)))
theorem Ph:AdS Fj E3:=by delta Fj E3;solve_by_elim [X6]
noncomputable def BP:XC:=Bc (By 1 1 E3)
theorem Pu:AdC Fa BP:=BC (C5 1 1 Ph)
noncomputable def T5:XS:=(Al (Bm 0 (xSl true (Aa 0) (xD .none) (xD (.int 63)))) (Al (Bm 1 (xIf (xTr (Ai (AF .NotEq) (Aa 0) (AJ Af))) (Av (A8 (Ai AE (Aa 0) (xD (.int 0))) Af) WM) (xD (.int 0)))) (Al (Za [2,3,4] (A8 (AJ (A8 (Ai Ch (Aa 1) (xD (.int 4))) (A8 (xD (.int 0)) (A8 (Ai Ch (Ai JC (Aa 1) (xD (.int 4))) (xD (.int 4))) (A8 (xD (.int 9)) Af))))) (A8 (BX Af) (A8 (Av Af QX) Af)))) (Al (DL (Ic (Av (A8 (xD (.int 3)) (A8 (Av (A8 (xD (.int 16)) (A8 (Ai J2 (Av (A8 (Aa 0) Af) BW) (xD (.int 1))) Af)) Ym) Af)) Yl)) (BN 5) (Al (Bm 6 (Av (A8 (Ai AH (xIf (xTr (Ai (AF .Lt) (Ai AH (Aa 5) (xD (.int 1))) (Av (A8 (Aa 0) Af) BW))) (Ai AE (Aa 0) (Ai AH (Aa 5) (xD (.int 1)))) (xD (.int 0))) (Ai Lz (xD (.int 31)) (Aa 5))) Af) WM)) (Al (Bm 7 (Av (A8 (Ai JC (Aa 6) (xD (.int 50))) Af) Hr)) (Al (xSt (xMt (CR Hx) (Aa 3) (A8 (Ai AE (Aa 7) (Ai Ch (Aa 6) (xD (.int 50)))) Af))) Am)))) (Mi 3 (Al (BL [443] s!"kinds" (xFz (Av (A8 (xD BR) Af) Zc)) (Aa 4)) (Al (BL [443] s!"imports" (AJ (A8 (xFz (Av (A8 (xD (.str s!"h")) (A8 (xD (.str s!"f")) (A8 (xD (.int 0)) (A8 (Ai AE (Aa 2) (xD (.int 0))) Af)))) QW)) Af)) (Aa 4)) (Al (BL [443] s!"funcs" (AJ (A8 (xFz (Av (A8 (xD (.int 0)) (A8 (B2 (A8 (ED (xD (.int 1))) (A8 (ED (xD (.int 2))) Af))) (A8 (xFz (Ai AH (Aa 3) (AJ (A8 (B2 (A8 (xD (.int 11)) Af)) Af)))) Af))) GB)) (A8 (xFz (Av (A8 (Ai AE (Aa 2) (xD (.int 2))) (A8 (B2 Af) (A8 (AJ (A8 (B2 (A8 (xD (.int 11)) Af)) Af)) Af))) GB)) (A8 (xFz (Av (A8 (xD (.int 9)) (A8 (B2 Af) (A8 (AJ (A8 (B2 (A8 (xD (.int 11)) Af)) Af)) Af))) GB)) Af)))) (Aa 4)) (Mi 4 (Al (DJ [8,9] (A8 (xMt (Bz s!"plain" (mC 443 BP mN)) (Aa 4) Af) (A8 (xFz (C7 (xIt (Aa 3)) [4] BD (Av (A8 (Aa 1) (A8 (Aa 0) Af)) BB))) Af))) (Al (Bm 10 (C7 (xIt (Aa 3)) [2] BD (Av (A8 (Aa 0) (A8 (Aa 1) Af)) CV))) (Mi 10 (Al (AO (DM (xTr (Ai (AF .NotEq) (xFz (C7 (xIt (Aa 3)) [4] BD (Av (A8 (Aa 1) (A8 (Aa 0) Af)) C9))) (Aa 10))) (DM (xTr (Ai (AF .NotEq) (Av (A8 (Av (A8 (Aa 4) Af) Dk) Af) BZ) (Aa 9))) E1)) (Al (B8 (xD (.bool false))) Am) Am) (Al (DJ [11,12] (A8 (Av (A8 (Av (A8 (Aa 4) Af) Dx) Af) BZ) (A8 (BX Af) Af))) (Al (AO (xTr (Ai (AF .NotEq) (Aa 11) (Av (A8 (Aa 9) (A8 (Aa 10) Af)) Ef))) (Al (B8 (xD (.bool false))) Am) Am) (Al (DL (xIt (Aa 11)) (BN 13) (Al (xSt (xMt (CR Hq) (Aa 12) (A8 (Av (A8 (Aa 13) Af) E9) Af))) Am)) (Al (B8 (N8 (Ai (AF .Eq) (Aa 12) (Aa 9)) (Ai (AF .Eq) (xMt (Bz s!"plain" (mC 443 BP mN)) (Aa 4) Af) (Aa 8)))) Am)))))))))))))))))
theorem a_law:AdS Z3 T5:=by delta Z3 T5;solve_by_elim [A5U,A03,A04,Pu,O8,Rj,Rk,To,X4,Tp,X5,Le,Py]
noncomputable def A47:XC:=By 1 13 T5
theorem b_law:AdC A4L A47:=C5 1 13 a_law
noncomputable abbrev cl (x:Str):List Nat:=x.cps.toList
theorem BT (a b:Str):cl (a++b)=cl a++cl b:=by
  show (a.cps++b.cps).toList=_;rw [Array.toList_append]
theorem Gk (x:Str):x.length=(cl x).length:=by simp [Str.length,cl]
theorem Nr {a b:Str}(h:cl a=cl b):a=b:=Str.ext' (Array.toList_inj.mp h)
theorem BA (a b:Str):(a++b).length=a.length+b.length:=by rw [Gk,Gk,Gk,BT,List.length_append]
noncomputable def jn (z:List Nat):List (List Nat)→List Nat
  | []=>[]
  | [x]=>x
  | x::y::r=>x++z++jn z (y::r)
theorem Mz (z:Str):∀ l:List Str,cl (Str.join z l)=jn (cl z) (l.map cl)
  | []=>rfl
  | [x]=>rfl
  | x::y::r=>by
    show cl (x++z++Str.join z (y::r))=_;rw [BT,BT,Mz z (y::r)];rfl
theorem Iy (z:Str)(l:List Str):Txt.join z l=Str.join z l:=StrLaws.glued_eq_join z l
noncomputable def Wd (cs:List Nat):List Str:=KWd.fin (cs.foldl KWd.step ([],Str.empty))
theorem A2T (x:Str):Txt.words x=Wd (cl x):=KWd.words_scan x
theorem A2N (ws ws':List Str)(r:Str)(c:Nat):KWd.step (ws++ws',r) c=(ws++(KWd.step (ws',r) c).1,(KWd.step (ws',r) c).2):=by
  unfold KWd.step;dsimp only;split
  · split
    · rfl
    · rw [List.append_assoc]
  · rfl
theorem VL (ws:List Str):∀ (cs:List Nat) (ws':List Str) (r:Str),cs.foldl KWd.step (ws++ws',r)=(ws++(cs.foldl KWd.step (ws',r)).1,(cs.foldl KWd.step (ws',r)).2)
  | [],_,_=>rfl
  | c::cs,ws',r=>by
    rw [List.foldl_cons,List.foldl_cons,A2N];exact VL ws cs _ _
theorem A3S (ws ws':List Str)(r:Str):KWd.fin (ws++ws',r)=ws++KWd.fin (ws',r):=by
  unfold KWd.fin;dsimp only;split
  · rfl
  · rw [List.append_assoc]
theorem V0 {c:Nat}(hc:Unicode.isSpace c=true)(a b:List Nat):Wd (a++c::b)=Wd a++Wd b:=by
  unfold Wd;rw [List.foldl_append,List.foldl_cons];have key:∀ st:KWd.St,KWd.step st c=(KWd.fin st,Str.empty):=by
    intro st;unfold KWd.step KWd.fin;rw [if_pos hc]
    by_cases h:st.2.length=0
    · rw [if_pos h,if_pos h]
      have:=KWd.len0 h;exact Prod.ext rfl this
    · rw [if_neg h,if_neg h]
  rw [key];have:=VL (KWd.fin (a.foldl KWd.step ([],Str.empty))) b [] Str.empty;rw [List.append_nil] at this;rw [this,A3S]
theorem A5M:Wd []=[]:=rfl
theorem A0T {cs:List Nat}(h:cs.all (fun c=>!Unicode.isSpace c)=true)(hn:cs≠[]):Wd cs=[⟨cs.toArray⟩]:=by
  unfold Wd;have:∀ (cs:List Nat) (r:Str),cs.all (fun c=>!Unicode.isSpace c)=true→cs.foldl KWd.step ([],r)=([],r ++ ⟨cs.toArray⟩):=by
    intro cs
    induction cs with
    | nil =>
      intro r _;refine Prod.ext rfl (Nr ?_);show cl r=cl (r ++ ⟨[].toArray⟩);rw [BT];simp [cl]
    | cons c cs ih =>
      intro r h;rw [List.all_cons,Bool.and_eq_true] at h;have hc:¬ Unicode.isSpace c=true:=by simpa using h.1
      rw [List.foldl_cons];have e:KWd.step ([],r) c=([],r ++ ⟨#[c]⟩):=by unfold KWd.step;rw [if_neg hc]
      rw [e,ih _ h.2];refine Prod.ext rfl (Nr ?_);show cl (r ++ ⟨#[c]⟩ ++ ⟨cs.toArray⟩)=cl (r ++ ⟨(c::cs).toArray⟩);rw [BT,BT,BT,List.append_assoc];rfl
  rw [this cs Str.empty h];unfold KWd.fin;have hl:(Str.empty ++ ⟨cs.toArray⟩:Str)=⟨cs.toArray⟩:=Str.empty_append _;rw [hl,if_neg]
  · rfl
  · show ¬ (cs.toArray.size=0)
    simpa using hn
theorem A2K:Unicode.isSpace 32=true:=by decide +kernel
theorem Yc (x:Str)(h:x.length < 16777216):(Builtin.Str.spaceWords x (x.length+1)).length≤sizeLine:=by
  have h1:=(StrLaws.sw_weight x).1;have h2:=StrLaws.len_le_wsum (Builtin.Str.spaceWords x (x.length+1));have e:sizeLine=16777216:=by decide
  omega
noncomputable def r1 (c:Nat)(z cs:List Nat):List Nat:=cs.flatMap fun k=>if k=c then z else [k]
theorem Uv (c:Nat)(z a b:List Nat):r1 c z (a++b)=r1 c z a++r1 c z b:=by unfold r1;rw [List.flatMap_append]
theorem MQ (c:Nat)(z:List Nat):∀ l:List Nat,c ∉ l→r1 c z l=l
  | [],_=>rfl
  | k::r,h=>by
    rw [List.mem_cons,not_or] at h;show (if k=c then z else [k])++r1 c z r=k::r;rw [if_neg (fun e=>h.1 e.symm),MQ c z r h.2];rfl
theorem A7w (c:Nat)(z:List Nat):r1 c z [c]=z:=by unfold r1;simp
theorem A42 (c:Nat)(z:List Nat):∀ parts:List (List Nat),(∀ p∈parts,c ∉ p)→r1 c z (jn [c] parts)=jn z parts
  | [],_=>rfl
  | [x],h=>MQ c z x (h x (.head _))
  | x::y::r,h=>by
    show r1 c z (x++[c]++jn [c] (y::r))=x++z++jn z (y::r);rw [Uv,Uv,MQ c z x (h x (.head _)),A7w,A42 c z (y::r) fun p hp=>h p (.tail _ hp)]
theorem Wq (x z:Str)(c:Nat):cl (Txt.replace x ⟨#[c]⟩ z)=r1 c (cl z) (cl x):=by
  rw [StrLaws.replace_one,Mz];have h:=congrArg cl (StrLaws.join_split x ⟨#[c]⟩);rw [Mz] at h
  conv=>rhs;rw [← h]
  refine (A42 c (cl z) _ fun p hp=>?_).symm;obtain ⟨q,hq,rfl⟩:=List.mem_map.mp hp;exact StrLaws.split_free x c q hq
noncomputable def rp (cs:List Nat):List Nat:=r1 41 [32,41,32] (r1 40 [32,40,32] cs)
theorem UH (a b:List Nat):rp (a++b)=rp a++rp b:=by unfold rp;rw [Uv,Uv]
theorem repl2 (x:Str):cl (Txt.replace (Txt.replace x s!"(" s!" ( ") s!")" s!" ) ")=rp (cl x):=by
  have e1:s!"(" = ⟨#[40]⟩:=by decide +kernel
  have e2:s!")" = ⟨#[41]⟩:=by decide +kernel
  have e3:cl s!" ( " = [32,40,32]:=by decide +kernel
  have e4:cl s!" ) " = [32,41,32]:=by decide +kernel
  rw [e1,e2,Wq,Wq,e3,e4];rfl
theorem Uw (c:Nat)(z:List Nat)(hz:z.length=3):∀ l:List Nat,(r1 c z l).length≤3 * l.length
  | []=>Nat.le_refl _
  | k::r=>by
    have:=Uw c z hz r;show ((if k=c then z else [k])++r1 c z r).length≤3 * (r.length+1);rw [List.length_append];split
    · omega
    · simp only [List.length_singleton];omega
noncomputable def tk (x:Str):List Str:=Wd (rp (cl x))
theorem A45 (a b:Str):tk (a ++ ⟨#[32]⟩ ++ b)=tk a++tk b:=by
  unfold tk;rw [BT,BT,UH,UH];have e:rp (cl ⟨#[32]⟩)=[32]:=by decide +kernel
  rw [e,List.append_assoc];exact V0 A2K _ _
noncomputable abbrev opn:Str:=⟨#[40]⟩
noncomputable abbrev Do:Str:=⟨#[41]⟩
noncomputable abbrev spc:Str:=⟨#[32]⟩
theorem A7D (a:Str):tk (opn++a++Do)=opn::(tk a++[Do]):=by
  unfold tk;rw [BT,BT,UH,UH];have e1:rp (cl opn)=[]++32::([40]++[32]):=by decide +kernel
  have e2:rp (cl Do)=[]++32::([41]++[32]):=by decide +kernel
  rw [e1,e2];simp only [List.nil_append,List.cons_append];rw [show 32::40::32::(rp (cl a)++[32,41,32])=[]++32::([40]++32::(rp (cl a)++32::([41]++32::[]))) from by simp,V0 A2K,V0 A2K,V0 A2K,V0 A2K]
  have h1:Wd [40]=[opn]:=by decide +kernel
  have h2:Wd [41]=[Do]:=by decide +kernel
  rw [h1,h2,A5M];rfl
theorem Z7:∀ (l:List Str),tk (Str.join spc l)=(l.map tk).flatten
  | []=>by decide +kernel
  | [x]=>by simp [Str.join]
  | x::y::r=>by
    show tk (x++spc++Str.join spc (y::r))=_;rw [A45,Z7 (y::r)];rfl
theorem A1Q (c:Nat):∀ (ps qs:List (List Nat)),ps≠[]→qs≠[]→(∀ p∈ps,c ∉ p)→(∀ p∈qs,c ∉ p)→jn [c] ps=jn [c] qs→ps=qs
  | [],_,h,_,_,_,_=>absurd rfl h
  | _,[],_,h,_,_,_=>absurd rfl h
  | [x],[y],_,_,_,_,e=>by rw [show x=y from e]
  | [x],y::y'::r,_,_,h1,_,e=>by
    exfalso
    refine h1 x (.head _) ?_;rw [show x=y++[c]++jn [c] (y'::r) from e];simp
  | x::x'::r,[y],_,_,_,h2,e=>by
    exfalso
    refine h2 y (.head _) ?_;rw [show y=x++[c]++jn [c] (x'::r) from e.symm];simp
  | x::x'::r,y::y'::r',_,_,h1,h2,e=>by
    have e:x++[c]++jn [c] (x'::r)=y++[c]++jn [c] (y'::r'):=e;rw [List.append_assoc,List.append_assoc] at e;have key:∀ (a b u v:List Nat),c ∉ a→c ∉ b→a++c::u=b++c::v→a=b∧u=v:=by
      intro a
      induction a with
      | nil =>
        intro b u v _ hb e;cases b with
        | nil=>exact ⟨rfl,(List.cons.inj e).2⟩
        | cons k b=>exact absurd (List.cons.inj e).1 (fun e=>hb (e ▸ .head _))
      | cons k a ih =>
        intro b u v ha hb e;cases b with
        | nil=>exact absurd (List.cons.inj e).1.symm (fun e=>ha (e ▸ .head _))
        | cons k' b =>
          obtain ⟨e1,e2⟩:=List.cons.inj e;obtain ⟨e3,e4⟩:=ih b u v (fun h=>ha (.tail _ h)) (fun h=>hb (.tail _ h)) e2;exact ⟨by rw [e1,e3],e4⟩
    obtain ⟨e1,e2⟩:=key x y _ _ (h1 x (.head _)) (h2 y (.head _)) e;rw [e1,A1Q c (x'::r) (y'::r') (by simp) (by simp) (fun p hp=>h1 p (.tail _ hp)) (fun p hp=>h2 p (.tail _ hp)) e2]
theorem LI (x:Str)(w:Nat):∀ (cuts:List Nat) (a:Nat),(StrLaws.partsFrom x w a cuts).length=cuts.length+1
  | [],_=>rfl
  | c::r,a=>by
    show (_::StrLaws.partsFrom x w _ r).length=_;rw [List.length_cons,LI x w r];rfl
theorem A2L (x y:Str):Txt.split x y≠[]:=by
  unfold Txt.split;split
  · simp
  · split
    · simp
    · rw [StrLaws.partsBetween_eq]
      obtain ⟨p,r,h⟩:=StrLaws.partsFrom_ne x y.length 0 (Builtin.Str.occurrences x y 0 x.length (x.length+1));rw [h];simp
theorem Y4 (c:Nat)(ps:List Str)(hn:ps≠[])(hf:∀ p∈ps,c ∉ cl p):Txt.split (Str.join ⟨#[c]⟩ ps) ⟨#[c]⟩=ps:=by
  have h:=congrArg cl (StrLaws.join_split (Str.join ⟨#[c]⟩ ps) ⟨#[c]⟩);rw [Mz,Mz] at h;have:=A1Q c _ _ (by simpa using A2L _ _) (by simpa using hn) (by
    intro p hp;obtain ⟨q,hq,rfl⟩:=List.mem_map.mp hp;exact StrLaws.split_free _ c q hq) (by
    intro p hp;obtain ⟨q,hq,rfl⟩:=List.mem_map.mp hp;exact hf q hq) h
  have inj:∀ a b:List Str,a.map cl=b.map cl→a=b:=by
    intro a
    induction a with
    | nil=>intro b e;cases b with
      | nil=>rfl
      | cons=>cases e
    | cons x a ih=>intro b e;cases b with
      | nil=>cases e
      | cons y b =>
        obtain ⟨e1,e2⟩:=List.cons.inj e;rw [Nr e1,ih b e2]
  exact inj _ _ this
theorem XX (x y:Str)(h:x.length+2≤16777216):(Builtin.Str.partsBetween x (Builtin.Str.occurrences x y 0 x.length (x.length+1)) y.length).length≤sizeLine:=by
  rw [StrLaws.partsBetween_eq,LI];have h1:=StrLaws.occ_length_le x y 0 x.length (x.length+1);have e:sizeLine=16777216:=by decide
  omega
noncomputable abbrev ti (l:List Int):D:=.tup (l.map .int)
noncomputable abbrev Z8 (f l:List D):D:=.obj 622 [(s!"func_ids",.lst f),(s!"local_ids",.lst l)]
noncomputable abbrev fnD (k:Int) (loc:List Int) (body:List D):D:=.obj 220 [(s!"kind",.int k),(s!"locals",ti loc),(s!"body",.lst body)]
noncomputable abbrev A1M (a:Int):D:=.obj 192 [(s!"place",.str s!"h"),(s!"name",.str s!"f"),(s!"sort",.int 0),(s!"about",.int a)]
noncomputable abbrev DW:List D:=[.tup [.tup [],.tup []],.tup [ti [-1],ti [-1]],.tup [ti [-1,-1],.tup []],.tup [ti [-1,-2,-1],ti [-1,-2]]]
noncomputable def Ce (a b:Int)(ops:List D):D:=.obj 443 [(s!"kinds",.lst DW),(s!"imports",.lst [A1M a]),
  (s!"funcs",.lst [fnD 0 [-1,-2] (ops++[ti [11]]),fnD b [] [ti [11]],fnD 9 [] [ti [11]]]),(s!"tables",.lst []),(s!"memories",.lst []),(s!"globals",.lst []),(s!"exports",.lst []),(s!"start",.none),(s!"elems",.lst []),(s!"datas",.lst []),(s!"customs",.lst [])]
noncomputable abbrev G4 (a b:Int):D:=.lst [.int a,.int 0,.int b,.int 9]
noncomputable abbrev eS:D:=.str s!""
noncomputable abbrev EC:D:=Z8 [eS,eS,eS,eS] [eS,eS]
noncomputable def NL (r:Option (AV×Sto)):Option D:=match r with
  | some (.d d,_)=>some d
  | _=>none
theorem Br {x:XC}{args:List AV}{d:D}(h:NL (Bc x args [])=some d)(σ:Sto):Bc x args σ = some (.d d,σ):=by
  unfold Bc at h ⊢;cases e1:Ez args with
  | none=>rw [e1] at h;cases h
  | some ds =>
    rw [e1] at h;simp only [Option.bind_some] at h ⊢;cases e2:x args [] with
    | none=>rw [e2] at h;cases h
    | some r =>
      obtain (⟨v,s⟩):=r;rw [e2] at h;simp only [Option.bind_some] at h ⊢;cases v with
      | loc n=>cases h
      | d y=>cases h;rfl
noncomputable def GE (w:Str):Bool:=decide (w=opn) || decide (w=Do)
noncomputable def K9 (w:Str):Bool:=decide (w=s!"type") || decide (w=s!"result")
noncomputable def grp (w1 w2:Str):Str:=opn++(w1++spc++w2)++Do
noncomputable def FC:List Str→Option (List Str)
  | w::w1::w2::w3::r=>if GE w then (if (decide (w=opn) && K9 w1 && !GE w2 && decide (w3=Do))=true then (FC r).map (grp w1 w2::·) else none) else (FC (w1::w2::w3::r)).map (w::·)
  | w::r=>if GE w then none else (FC r).map (w::·)
  | []=>some []
noncomputable def good (t:Str):Bool:=(match FC (tk t) with
  | some (w0::ws)=>decide (Str.join spc (w0::ws)=t) && !K9 w0 && w0.cps.all (· < 0x110000) && t.cps.all (· < 0x110000)
  | _=>false) && decide (t.length≤60) && !(cl t).contains 10 && (match cl t with
  | c::_=>!(c == 40) && !(c == 32)
  | []=>false)
noncomputable def rdT:Option D→Option Str
  | some (.str t)=>some t
  | _=>none
noncomputable def dI:D→Option Nat
  | .int (.ofNat p)=>some p
  | _=>none
noncomputable def rdP:List D→Option (Option (Nat×Nat))
  | [a,b]=>(dI a).bind fun p=>(dI b).bind fun q=>if p≤10∧q≤10 then some (some (p,q)) else none
  | _=>none
noncomputable def rdD:D→Option (Option (Nat×Nat))
  | .none=>some none
  | .tup l=>rdP l
  | _=>none
noncomputable def rdC (o:Option D):Option (Option (Nat×Nat)):=o.bind rdD
noncomputable def cnD:Option (Nat×Nat)→D
  | none=>.none
  | some (p,q)=>.tup [.int p,.int q]
noncomputable def opF:D→Bool
  | .tup (.int c::l)=>([2,3,4,5,11]:List Int).all (fun k=>!(k == c)) && l.all (fun d=>match d with | .int _=>true | _=>false)
  | _=>false
noncomputable def chk (a b:Int)(ops:List D)(op:D):Bool:=
  (match rdT (NL (BB [.d (Ce a b ops),.d op] [])),rdT (NL (B5 [.d EC,.d op] [])) with
  | some t,some t'=>decide (t=t') && good t
  | _,_=>false) &&
  (match rdC (NL (C9 [.d (Ce a b ops),.d op] [])),rdC (NL (CV [.d op,.d (G4 a b)] [])) with
  | some c,some c'=>decide (c=c')
  | _,_=>false) && opF op
theorem A0X (n:Nat)(hn:0 < (n:Int))(f:Int→Bool)(h:((List.range n).all fun i=>f (i:Int))=true)(d:Int):f (d.fmod (n:Int))=true:=by
  have h1:=Int.fmod_nonneg_of_pos d hn;have h2:=Int.fmod_lt_of_pos d hn;obtain ⟨k,hk⟩:=Int.eq_ofNat_of_zero_le h1;rw [hk] at h2 ⊢;exact List.all_eq_true.mp h k (List.mem_range.mpr (Int.ofNat_lt.mp h2))
theorem HZ (f:Int→Bool)(h:(f 0 && f 1)=true)(d:Int):f (d.fmod 2)=true:=A0X 2 (by decide) f (by show ((f 0 && (f 1 && true)))=true;simpa only [Bool.and_true,Bool.and_assoc] using h) d
theorem X1 (f:Int→Bool)(h:(f 0 && f 1 && f 2)=true)(d:Int):f (d.fmod 3)=true:=A0X 3 (by decide) f (by show ((f 0 && (f 1 && (f 2 && true))))=true;simpa only [Bool.and_true,Bool.and_assoc] using h) d
theorem all4 (f:Int→Bool)(h:(f 0 && f 1 && f 2 && f 3)=true)(d:Int):f (d.fmod 4)=true:=A0X 4 (by decide) f (by show ((f 0 && (f 1 && (f 2 && (f 3 && true)))))=true;simpa only [Bool.and_true,Bool.and_assoc] using h) d
theorem X2 (f:Int→Bool)(h:(f 0 && f 1 && f 2 && f 3 && f 4)=true)(d:Int):f (d.fmod 5)=true:=A0X 5 (by decide) f (by show ((f 0 && (f 1 && (f 2 && (f 3 && (f 4 && true))))))=true;simpa only [Bool.and_true,Bool.and_assoc] using h) d
theorem all7 (f:Int→Bool)(h:(f 0 && f 1 && f 2 && f 3 && f 4 && f 5 && f 6)=true)(d:Int):f (d.fmod 7)=true:=A0X 7 (by decide) f (by show ((f 0 && (f 1 && (f 2 && (f 3 && (f 4 && (f 5 && (f 6 && true))))))))=true;simpa only [Bool.and_true,Bool.and_assoc] using h) d
noncomputable def k3 (r:Int):Int:=if r=0 then -1 else if r=1 then -2 else -16
noncomputable def k2 (r:Int):Int:=if r=0 then -16 else -17
noncomputable abbrev Iv (d:Int):List D:=[ti [65,((d.fmod 5) - 2)],
  ti [65,(d.fmod 3)],
  ti [66,((d.fmod 7) - 3)],
  ti [32,(d.fmod 2)],
  ti [32,((d.fdiv 2).fmod 2)],
  ti [35,(d.fmod 3)],
  ti [36,(d.fmod 3)],
  ti [33,(d.fmod 2)],
  ti [34,(d.fmod 2)],
  ti [26],
  ti [27],
  ti [28,(k3 (d.fmod 3))],
  ti [16,(d.fmod 5)],
  ti [16,(d.fmod 5)],
  ti [16,((d.fdiv 5).fmod 5)],
  ti [17,(d.fmod 5),((d.fdiv 5).fmod 2)],
  ti [17,((d.fdiv 2).fmod 5),(d.fmod 2)],
  ti [106],
  ti [124],
  ti [69],
  ti [172],
  ti [40,(d.fmod 3),((d.fdiv 3).fmod 3)],
  ti [54,(d.fmod 3),((d.fdiv 3).fmod 2)],
  ti [63],
  ti [64],
  ti [37,(d.fmod 2)],
  ti [38,(d.fmod 2)],
  ti [208,(k2 (d.fmod 2))],
  ti [209],
  ti [210,(d.fmod 5)],
  ti [64520,(d.fmod 2)],
  ti [64521,(d.fmod 2)],
  ti [64522],
  ti [64523],
  ti [64524,(d.fmod 2),((d.fdiv 2).fmod 2)],
  ti [64525,(d.fmod 2)],
  ti [64526,(d.fmod 2),((d.fdiv 2).fmod 2)],
  ti [64527,(d.fmod 2)],
  ti [64528,(d.fmod 2)],
  ti [64529,(d.fmod 2)],
  ti [12,0],
  ti [13,0],
  ti [14,0,0],
  ti [15],
  ti [0],
  ti [1],
  ti [18,(d.fmod 5)],
  ti [19,(d.fmod 5),((d.fdiv 5).fmod 2)],
  ti [65,(d.fmod 9999)],
  ti [106]]
noncomputable def Ev (x:XE)(ρ:Lo)(σ:Sto)(d:D):Prop:=x ρ σ = some (.d d,σ)
noncomputable def EvL (x:XEs)(ρ:Lo)(σ:Sto)(l:List D):Prop:=x ρ σ = some (l.map .d,σ)
section
variable {x:XE}{xs:XEs}{ρ:Lo}{σ:Sto}{l:List D}
theorem B3:EvL Af ρ σ []:=rfl
theorem An {d:D}(h:Ev x ρ σ d)(k:EvL xs ρ σ l):EvL (A8 x xs) ρ σ (d::l):=by
  unfold EvL A8;unfold Ev at h;unfold EvL at k;rw [h];simp only [Option.bind_some,k,List.map_cons]
theorem B6 (h:EvL xs ρ σ l)(hb:Nat.ble l.length 8=true):Ev (B2 xs) ρ σ (.tup l):=by
  have hl:l.length≤sizeLine:=Nat.le_trans (Nat.le_of_ble_eq_true hb) (by decide);unfold Ev B2;unfold EvL at h;rw [h];simp only [Option.bind_some,C0,if_pos hl]
theorem A6o (h:EvL xs ρ σ l)(hl:l.length≤sizeLine):Ev (AJ xs) ρ σ (.lst l):=by
  unfold Ev AJ;unfold EvL at h;rw [h];simp only [Option.bind_some,C0,if_pos hl]
end
theorem ev_k3 (d:Int)(σ:Sto):Ev (Ai AE (B2 (A8 (ED (xD (.int 1))) (A8 (ED (xD (.int 2))) (A8 (ED (xD (.int 16))) Af)))) (Ai Ch (Aa 0) (xD (.int 3)))) [some (.d (.int d))] σ (.int (k3 (d.fmod 3))):=by
  have e:∀ r:Int,(r=0∨r=1∨r=2)→AE (.d (.tup [.int (-1),.int (-2),.int (-16)])) (.d (.int r)) σ = some (.d (.int (k3 r)),σ):=by
    rintro r (rfl | rfl | rfl) <;> rfl
  have h1:=Int.fmod_nonneg_of_pos d (b:=3) (by decide);have h2:=Int.fmod_lt_of_pos d (b:=3) (by decide);exact e _ (by omega)
theorem ev_k2 (d:Int)(σ:Sto):Ev (Ai AE (B2 (A8 (ED (xD (.int 16))) (A8 (ED (xD (.int 17))) Af))) (Ai Ch (Aa 0) (xD (.int 2)))) [some (.d (.int d))] σ (.int (k2 (d.fmod 2))):=by
  have e:∀ r:Int,(r=0∨r=1)→AE (.d (.tup [.int (-16),.int (-17)])) (.d (.int r)) σ = some (.d (.int (k2 r)),σ):=by
    rintro r (rfl | rfl) <;> rfl
  have h1:=Int.fmod_nonneg_of_pos d (b:=2) (by decide);have h2:=Int.fmod_lt_of_pos d (b:=2) (by decide);exact e _ (by omega)
theorem ZY (d:Int)(σ:Sto):∃ x:XE,Ho=Al (B8 x) Am∧Ev x [some (.d (.int d))] σ (.lst (Iv d)):=
  ⟨_,rfl,A6o (An (B6 (An rfl (An rfl B3)) rfl) (An (B6 (An rfl (An rfl B3)) rfl) (An (B6 (An rfl (An rfl B3)) rfl) (An (B6 (An rfl (An rfl B3)) rfl) (An (B6 (An rfl (An rfl B3)) rfl) (An (B6 (An rfl (An rfl B3)) rfl) (An (B6 (An rfl (An rfl B3)) rfl) (An (B6 (An rfl (An rfl B3)) rfl) (An (B6 (An rfl (An rfl B3)) rfl) (An (B6 (An rfl B3) rfl) (An (B6 (An rfl B3) rfl) (An (B6 (An rfl (An (ev_k3 d σ) B3)) rfl) (An (B6 (An rfl (An rfl B3)) rfl) (An (B6 (An rfl (An rfl B3)) rfl) (An (B6 (An rfl (An rfl B3)) rfl) (An (B6 (An rfl (An rfl (An rfl B3))) rfl) (An (B6 (An rfl (An rfl (An rfl B3))) rfl) (An (B6 (An rfl B3) rfl) (An (B6 (An rfl B3) rfl) (An (B6 (An rfl B3) rfl) (An (B6 (An rfl B3) rfl) (An (B6 (An rfl (An rfl (An rfl B3))) rfl) (An (B6 (An rfl (An rfl (An rfl B3))) rfl) (An (B6 (An rfl B3) rfl) (An (B6 (An rfl B3) rfl) (An (B6 (An rfl (An rfl B3)) rfl) (An (B6 (An rfl (An rfl B3)) rfl) (An (B6 (An rfl (An (ev_k2 d σ) B3)) rfl) (An (B6 (An rfl B3) rfl) (An (B6 (An rfl (An rfl B3)) rfl) (An (B6 (An rfl (An rfl B3)) rfl) (An (B6 (An rfl (An rfl B3)) rfl) (An (B6 (An rfl B3) rfl) (An (B6 (An rfl B3) rfl) (An (B6 (An rfl (An rfl (An rfl B3))) rfl) (An (B6 (An rfl (An rfl B3)) rfl) (An (B6 (An rfl (An rfl (An rfl B3))) rfl) (An (B6 (An rfl (An rfl B3)) rfl) (An (B6 (An rfl (An rfl B3)) rfl) (An (B6 (An rfl (An rfl B3)) rfl) (An (B6 (An rfl (An rfl B3)) rfl) (An (B6 (An rfl (An rfl B3)) rfl) (An (B6 (An rfl (An rfl (An rfl B3))) rfl) (An (B6 (An rfl B3) rfl) (An (B6 (An rfl B3) rfl) (An (B6 (An rfl B3) rfl) (An (B6 (An rfl (An rfl B3)) rfl) (An (B6 (An rfl (An rfl (An rfl B3))) rfl) (An (B6 (An rfl (An rfl B3)) rfl) (An (B6 (An rfl B3) rfl) (B3))))))))))))))))))))))))))))))))))))))))))))))))))) (by show (50:Nat)≤sizeLine;decide)⟩
theorem A39 (d:Int)(σ:Sto):Hr [.d (.int d)] σ = some (.d (.lst (Iv d)),σ):=by
  refine Br ?_ σ;obtain ⟨x,e,h⟩:=ZY d [];show NL (Bc (By 1 0 Ho) _ _)=_;rw [e];unfold Bc By Al B8;unfold Ev at h;simp only [Ez,Option.map_some,Option.bind_some,List.length_cons,List.length_nil,if_true,List.map_cons,List.map_nil,List.replicate,List.append_nil,h,Ye,NL]
theorem A1c (ops:List D)(x y d:Int):chk (x.fmod 4) (y.fmod 4) ops (ti [16,d.fmod 5])=true:=by
  refine X2 (fun r=>chk (x.fmod 4) (y.fmod 4) ops (ti [16,r])) ?_ d;refine all4 (fun b=>(chk (x.fmod 4) b ops (ti [16,0]) && chk (x.fmod 4) b ops (ti [16,1]) && chk (x.fmod 4) b ops (ti [16,2]) && chk (x.fmod 4) b ops (ti [16,3]) && chk (x.fmod 4) b ops (ti [16,4]))) ?_ y;refine all4 (fun a=>((chk a 0 ops (ti [16,0]) && chk a 0 ops (ti [16,1]) && chk a 0 ops (ti [16,2]) && chk a 0 ops (ti [16,3]) && chk a 0 ops (ti [16,4])) && (chk a 1 ops (ti [16,0]) && chk a 1 ops (ti [16,1]) && chk a 1 ops (ti [16,2]) && chk a 1 ops (ti [16,3]) && chk a 1 ops (ti [16,4])) && (chk a 2 ops (ti [16,0]) && chk a 2 ops (ti [16,1]) && chk a 2 ops (ti [16,2]) && chk a 2 ops (ti [16,3]) && chk a 2 ops (ti [16,4])) && (chk a 3 ops (ti [16,0]) && chk a 3 ops (ti [16,1]) && chk a 3 ops (ti [16,2]) && chk a 3 ops (ti [16,3]) && chk a 3 ops (ti [16,4])))) ?_ x;kernel_rfl
theorem op_0 (a b:Int)(ops:List D)(d:Int):chk a b ops (ti [65,((d.fmod 5) - 2)])=true:=X2 (fun r=>chk a b ops (ti [65,(r - 2)])) (by kernel_rfl) d
theorem op_1 (a b:Int)(ops:List D)(d:Int):chk a b ops (ti [65,(d.fmod 3)])=true:=X1 (fun r=>chk a b ops (ti [65,r])) (by kernel_rfl) d
theorem op_2 (a b:Int)(ops:List D)(d:Int):chk a b ops (ti [66,((d.fmod 7) - 3)])=true:=all7 (fun r=>chk a b ops (ti [66,(r - 3)])) (by kernel_rfl) d
theorem op_3 (a b:Int)(ops:List D)(d:Int):chk a b ops (ti [32,(d.fmod 2)])=true:=HZ (fun r=>chk a b ops (ti [32,r])) (by kernel_rfl) d
theorem op_4 (a b:Int)(ops:List D)(d:Int):chk a b ops (ti [32,((d.fdiv 2).fmod 2)])=true:=HZ (fun r=>chk a b ops (ti [32,r])) (by kernel_rfl) (d.fdiv 2)
theorem op_5 (a b:Int)(ops:List D)(d:Int):chk a b ops (ti [35,(d.fmod 3)])=true:=X1 (fun r=>chk a b ops (ti [35,r])) (by kernel_rfl) d
theorem op_6 (a b:Int)(ops:List D)(d:Int):chk a b ops (ti [36,(d.fmod 3)])=true:=X1 (fun r=>chk a b ops (ti [36,r])) (by kernel_rfl) d
theorem op_7 (a b:Int)(ops:List D)(d:Int):chk a b ops (ti [33,(d.fmod 2)])=true:=HZ (fun r=>chk a b ops (ti [33,r])) (by kernel_rfl) d
theorem op_8 (a b:Int)(ops:List D)(d:Int):chk a b ops (ti [34,(d.fmod 2)])=true:=HZ (fun r=>chk a b ops (ti [34,r])) (by kernel_rfl) d
theorem op_9 (a b:Int)(ops:List D)(d:Int):chk a b ops (ti [26])=true:=(show chk a b ops (ti [26])=true by kernel_rfl)
theorem op_10 (a b:Int)(ops:List D)(d:Int):chk a b ops (ti [27])=true:=(show chk a b ops (ti [27])=true by kernel_rfl)
theorem op_11 (a b:Int)(ops:List D)(d:Int):chk a b ops (ti [28,(k3 (d.fmod 3))])=true:=X1 (fun r=>chk a b ops (ti [28,(k3 r)])) (by kernel_rfl) d
theorem op_15 (a b:Int)(ops:List D)(d:Int):chk a b ops (ti [17,(d.fmod 5),((d.fdiv 5).fmod 2)])=true:=HZ (fun s=>chk a b ops (ti [17,(d.fmod 5),s])) (X2 (fun r=>chk a b ops (ti [17,r,0]) && chk a b ops (ti [17,r,1])) (by kernel_rfl) d) (d.fdiv 5)
theorem op_16 (a b:Int)(ops:List D)(d:Int):chk a b ops (ti [17,((d.fdiv 2).fmod 5),(d.fmod 2)])=true:=HZ (fun s=>chk a b ops (ti [17,((d.fdiv 2).fmod 5),s])) (X2 (fun r=>chk a b ops (ti [17,r,0]) && chk a b ops (ti [17,r,1])) (by kernel_rfl) (d.fdiv 2)) d
theorem A41 (a b:Int)(ops:List D)(d:Int):chk a b ops (ti [106])=true:=(show chk a b ops (ti [106])=true by kernel_rfl)
theorem op_18 (a b:Int)(ops:List D)(d:Int):chk a b ops (ti [124])=true:=(show chk a b ops (ti [124])=true by kernel_rfl)
theorem op_19 (a b:Int)(ops:List D)(d:Int):chk a b ops (ti [69])=true:=(show chk a b ops (ti [69])=true by kernel_rfl)
theorem op_20 (a b:Int)(ops:List D)(d:Int):chk a b ops (ti [172])=true:=(show chk a b ops (ti [172])=true by kernel_rfl)
theorem op_21 (a b:Int)(ops:List D)(d:Int):chk a b ops (ti [40,(d.fmod 3),((d.fdiv 3).fmod 3)])=true:=X1 (fun s=>chk a b ops (ti [40,(d.fmod 3),s])) (X1 (fun r=>chk a b ops (ti [40,r,0]) && chk a b ops (ti [40,r,1]) && chk a b ops (ti [40,r,2])) (by kernel_rfl) d) (d.fdiv 3)
theorem op_22 (a b:Int)(ops:List D)(d:Int):chk a b ops (ti [54,(d.fmod 3),((d.fdiv 3).fmod 2)])=true:=HZ (fun s=>chk a b ops (ti [54,(d.fmod 3),s])) (X1 (fun r=>chk a b ops (ti [54,r,0]) && chk a b ops (ti [54,r,1])) (by kernel_rfl) d) (d.fdiv 3)
theorem op_23 (a b:Int)(ops:List D)(d:Int):chk a b ops (ti [63])=true:=(show chk a b ops (ti [63])=true by kernel_rfl)
theorem op_24 (a b:Int)(ops:List D)(d:Int):chk a b ops (ti [64])=true:=(show chk a b ops (ti [64])=true by kernel_rfl)
theorem op_25 (a b:Int)(ops:List D)(d:Int):chk a b ops (ti [37,(d.fmod 2)])=true:=HZ (fun r=>chk a b ops (ti [37,r])) (by kernel_rfl) d
theorem op_26 (a b:Int)(ops:List D)(d:Int):chk a b ops (ti [38,(d.fmod 2)])=true:=HZ (fun r=>chk a b ops (ti [38,r])) (by kernel_rfl) d
theorem op_27 (a b:Int)(ops:List D)(d:Int):chk a b ops (ti [208,(k2 (d.fmod 2))])=true:=HZ (fun r=>chk a b ops (ti [208,(k2 r)])) (by kernel_rfl) d
theorem op_28 (a b:Int)(ops:List D)(d:Int):chk a b ops (ti [209])=true:=(show chk a b ops (ti [209])=true by kernel_rfl)
theorem op_29 (a b:Int)(ops:List D)(d:Int):chk a b ops (ti [210,(d.fmod 5)])=true:=X2 (fun r=>chk a b ops (ti [210,r])) (by kernel_rfl) d
theorem op_30 (a b:Int)(ops:List D)(d:Int):chk a b ops (ti [64520,(d.fmod 2)])=true:=HZ (fun r=>chk a b ops (ti [64520,r])) (by kernel_rfl) d
theorem op_31 (a b:Int)(ops:List D)(d:Int):chk a b ops (ti [64521,(d.fmod 2)])=true:=HZ (fun r=>chk a b ops (ti [64521,r])) (by kernel_rfl) d
theorem op_32 (a b:Int)(ops:List D)(d:Int):chk a b ops (ti [64522])=true:=(show chk a b ops (ti [64522])=true by kernel_rfl)
theorem op_33 (a b:Int)(ops:List D)(d:Int):chk a b ops (ti [64523])=true:=(show chk a b ops (ti [64523])=true by kernel_rfl)
theorem op_34 (a b:Int)(ops:List D)(d:Int):chk a b ops (ti [64524,(d.fmod 2),((d.fdiv 2).fmod 2)])=true:=HZ (fun s=>chk a b ops (ti [64524,(d.fmod 2),s])) (HZ (fun r=>chk a b ops (ti [64524,r,0]) && chk a b ops (ti [64524,r,1])) (by kernel_rfl) d) (d.fdiv 2)
theorem op_35 (a b:Int)(ops:List D)(d:Int):chk a b ops (ti [64525,(d.fmod 2)])=true:=HZ (fun r=>chk a b ops (ti [64525,r])) (by kernel_rfl) d
theorem op_36 (a b:Int)(ops:List D)(d:Int):chk a b ops (ti [64526,(d.fmod 2),((d.fdiv 2).fmod 2)])=true:=HZ (fun s=>chk a b ops (ti [64526,(d.fmod 2),s])) (HZ (fun r=>chk a b ops (ti [64526,r,0]) && chk a b ops (ti [64526,r,1])) (by kernel_rfl) d) (d.fdiv 2)
theorem op_37 (a b:Int)(ops:List D)(d:Int):chk a b ops (ti [64527,(d.fmod 2)])=true:=HZ (fun r=>chk a b ops (ti [64527,r])) (by kernel_rfl) d
theorem op_38 (a b:Int)(ops:List D)(d:Int):chk a b ops (ti [64528,(d.fmod 2)])=true:=HZ (fun r=>chk a b ops (ti [64528,r])) (by kernel_rfl) d
theorem op_39 (a b:Int)(ops:List D)(d:Int):chk a b ops (ti [64529,(d.fmod 2)])=true:=HZ (fun r=>chk a b ops (ti [64529,r])) (by kernel_rfl) d
theorem op_40 (a b:Int)(ops:List D)(d:Int):chk a b ops (ti [12,0])=true:=(show chk a b ops (ti [12,0])=true by kernel_rfl)
theorem op_41 (a b:Int)(ops:List D)(d:Int):chk a b ops (ti [13,0])=true:=(show chk a b ops (ti [13,0])=true by kernel_rfl)
theorem op_42 (a b:Int)(ops:List D)(d:Int):chk a b ops (ti [14,0,0])=true:=(show chk a b ops (ti [14,0,0])=true by kernel_rfl)
theorem op_43 (a b:Int)(ops:List D)(d:Int):chk a b ops (ti [15])=true:=(show chk a b ops (ti [15])=true by kernel_rfl)
theorem op_44 (a b:Int)(ops:List D)(d:Int):chk a b ops (ti [0])=true:=(show chk a b ops (ti [0])=true by kernel_rfl)
theorem op_45 (a b:Int)(ops:List D)(d:Int):chk a b ops (ti [1])=true:=(show chk a b ops (ti [1])=true by kernel_rfl)
theorem op_46 (a b:Int)(ops:List D)(d:Int):chk a b ops (ti [18,(d.fmod 5)])=true:=X2 (fun r=>chk a b ops (ti [18,r])) (by kernel_rfl) d
theorem op_47 (a b:Int)(ops:List D)(d:Int):chk a b ops (ti [19,(d.fmod 5),((d.fdiv 5).fmod 2)])=true:=HZ (fun s=>chk a b ops (ti [19,(d.fmod 5),s])) (X2 (fun r=>chk a b ops (ti [19,r,0]) && chk a b ops (ti [19,r,1])) (by kernel_rfl) d) (d.fdiv 5)
noncomputable def AllP (Q:D→Prop):List D→Prop
  | []=>True
  | a::l=>Q a∧AllP Q l
theorem A3v {Q:D→Prop}{l:List D}(h:AllP Q l):∀ x∈l,Q x:=by
  induction l with
  | nil=>exact fun ξ k=>nomatch k
  | cons a l ih=>intro x k;cases k with
    | head=>exact h.1
    | tail _ k=>exact ih h.2 x k
theorem A4a (ops:List D)(x y d:Int)(Q:D→Prop)(hQ:∀ op,chk (x.fmod 4) (y.fmod 4) ops op=true→Q op)(hN:Q (ti [65,d.fmod 9999])):∀ op∈Iv d,Q op:=
  A3v ⟨hQ _ (op_0 _ _ ops d),hQ _ (op_1 _ _ ops d),hQ _ (op_2 _ _ ops d),hQ _ (op_3 _ _ ops d),hQ _ (op_4 _ _ ops d),hQ _ (op_5 _ _ ops d),hQ _ (op_6 _ _ ops d),hQ _ (op_7 _ _ ops d),hQ _ (op_8 _ _ ops d),hQ _ (op_9 _ _ ops d),hQ _ (op_10 _ _ ops d),hQ _ (op_11 _ _ ops d),hQ _ (A1c ops x y d),hQ _ (A1c ops x y d),hQ _ (A1c ops x y (d.fdiv 5)),hQ _ (op_15 _ _ ops d),hQ _ (op_16 _ _ ops d),hQ _ (A41 _ _ ops d),hQ _ (op_18 _ _ ops d),hQ _ (op_19 _ _ ops d),hQ _ (op_20 _ _ ops d),hQ _ (op_21 _ _ ops d),hQ _ (op_22 _ _ ops d),hQ _ (op_23 _ _ ops d),hQ _ (op_24 _ _ ops d),hQ _ (op_25 _ _ ops d),hQ _ (op_26 _ _ ops d),hQ _ (op_27 _ _ ops d),hQ _ (op_28 _ _ ops d),hQ _ (op_29 _ _ ops d),hQ _ (op_30 _ _ ops d),hQ _ (op_31 _ _ ops d),hQ _ (op_32 _ _ ops d),hQ _ (op_33 _ _ ops d),hQ _ (op_34 _ _ ops d),hQ _ (op_35 _ _ ops d),hQ _ (op_36 _ _ ops d),hQ _ (op_37 _ _ ops d),hQ _ (op_38 _ _ ops d),hQ _ (op_39 _ _ ops d),hQ _ (op_40 _ _ ops d),hQ _ (op_41 _ _ ops d),hQ _ (op_42 _ _ ops d),hQ _ (op_43 _ _ ops d),hQ _ (op_44 _ _ ops d),hQ _ (op_45 _ _ ops d),hQ _ (op_46 _ _ ops d),hQ _ (op_47 _ _ ops d),hN,hQ _ (A41 _ _ ops d),trivial⟩
noncomputable def Sq (item:DK)(l:List AV):Prop:=∀ i σ,item i σ = some (l[i]?)
theorem A7A (ds:List D):Sq (VW ds) (ds.map .d):=fun i σ=>by unfold VW;rw [List.getElem?_map]
theorem Md (ds:List D):Sq (GF (.d (.lst ds))) (ds.map .d):=fun i σ=>rfl
set_option tactic.hygienic true in
theorem A0l:∀ (n i:Nat),(List.range n)[i]? = if i < n then some i else none:=by
  intro n i;split
  · rename_i h;rw [List.getElem?_range h]
  · rename_i h;rw [List.getElem?_eq_none];simpa using h
theorem Wv (n:Nat):Sq (HJ (n:Int)) ((List.range n).map fun (i:Nat)=>.d (.int (i:Int))):=fun i σ=>by
  unfold HJ;rw [List.getElem?_map,A0l]
  by_cases h:i < n
  · rw [if_pos h,if_pos (by omega)];rfl
  · rw [if_neg h,if_neg (by omega)];rfl
theorem Y5 (ds:List D):∀ (i k:Nat),((ds.zipIdx k).map fun p=>AV.d (.tup [.int p.2,p.1]))[i]? = (ds[i]?).map fun d=>AV.d (.tup [.int ((k+i:Nat):Int),d]):=by
  intro i k;rw [List.getElem?_map,List.getElem?_zipIdx];cases ds[i]? <;> rfl
theorem A4m (ds:List D):Sq (Of (.d (.lst ds))) ((ds.zipIdx 0).map fun p=>.d (.tup [.int (p.2:Int),p.1])):=fun i σ=>by
  rw [Y5];unfold Of;simp only [AU,Option.bind_some,List.getElem?_map,Nat.zero_add];cases ds[i]? <;> rfl
noncomputable def Kr (asg:XA)(body:XS):List AV→XS
  | []=>fun ρ σ=>some (.next,ρ,σ)
  | a::l=>fun ρ σ=>(asg a ρ σ).bind fun r=>(body r.1 r.2).bind fun s=>match s.1 with
    | .next=>Kr asg body l s.2.1 s.2.2
    | .cont=>Kr asg body l s.2.1 s.2.2
    | .brk=>some (.next,s.2.1,s.2.2)
    | .ret v=>some (.ret v,s.2.1,s.2.2)
theorem DV {α:Type}:∀ (l:List α) (i:Nat),l.drop i=(match l[i]? with
  | none=>[]
  | some a=>a::l.drop (i+1))
  | [],i=>by simp
  | a::l,0=>by simp
  | a::l,i+1=>by simpa using DV l i
set_option tactic.hygienic true in
theorem Qg {item:DK}{asg:XA}{body:XS}{l:List AV}(hs:Sq item l):∀ (n i:Nat) (ρ:Lo) (σ:Sto),l.length≤n+i→Iz item asg body n i ρ σ = Kr asg body (l.drop i) ρ σ
  | 0,i,ρ,σ,h=>by
    have e:l[i]? = none:=List.getElem?_eq_none (by omega);unfold Iz;rw [hs,DV,e];rfl
  | n+1,i,ρ,σ,h=>by
    unfold Iz;rw [hs,DV];cases e:l[i]? with
    | none=>rfl
    | some a =>
      dsimp only [Kr];refine congrArg _ (funext fun r=>congrArg _ (funext fun s=>?_));cases s.1 with
      | next=>exact Qg hs n (i+1) _ _ (by omega)
      | cont=>exact Qg hs n (i+1) _ _ (by omega)
      | brk=>rfl
      | ret v=>rfl
theorem MG {xi:XI}{asg:XA}{body:XS}{ρ:Lo}{σ σ₁:Sto}{item:DK}{l:List AV}(hi:xi ρ σ = some (item,σ₁))(hs:Sq item l)(hl:l.length≤100000):DL xi asg body ρ σ = Kr asg body l ρ σ₁:=by
  unfold DL;rw [hi,Option.bind_some];exact Qg hs Oe 0 ρ σ₁ hl
noncomputable def IU (fr:Lo)(xt:XT)(xe:XE):List AV→Sto→List AV→Option (List AV×Sto)
  | [],σ,acc=>some (acc,σ)
  | a::l,σ,acc=>(xt (some a::fr) σ).bind fun b=>match b.1 with
      | true=>(xe (some a::fr) b.2).bind fun y=>IU fr xt xe l y.2 (acc++[y.1])
      | false=>IU fr xt xe l b.2 acc
set_option tactic.hygienic true in
theorem Ns {item:DK}{fr:Lo}{xt:XT}{xe:XE}{l:List AV}(hs:Sq item l):∀ (n i:Nat) (σ:Sto) (acc:List AV),l.length≤n+i→Gz item fr xt xe n i σ acc=IU fr xt xe (l.drop i) σ acc
  | 0,i,σ,acc,h=>by
    have e:l[i]? = none:=List.getElem?_eq_none (by omega);unfold Gz;rw [hs,DV,e];rfl
  | n+1,i,σ,acc,h=>by
    unfold Gz;rw [hs,DV];cases e:l[i]? with
    | none=>rfl
    | some a =>
      dsimp only [IU];refine congrArg _ (funext fun b=>?_);cases b.1 with
      | true =>
        show (xe (some a::fr) b.2).bind _=(xe (some a::fr) b.2).bind _;exact congrArg _ (funext fun y=>Ns hs n (i+1) _ _ (by omega))
      | false=>exact Ns hs n (i+1) _ _ (by omega)
theorem MA {xi:XI}{fr:List Nat}{xt:XT}{xe:XE}{ρ:Lo}{σ σ₁:Sto}{item:DK}{l:List AV}(hi:xi ρ σ = some (item,σ₁))(hs:Sq item l)(hl:l.length≤100000) :
    C7 xi fr xt xe ρ σ = (IU (fr.map fun i=>(ρ[i]?).join) xt xe l σ₁ []).bind fun s=>some (.loc s.2.length,s.2++[.list s.1]):=by
  unfold C7;rw [hi,Option.bind_some];dsimp only;rw [Ns hs Oe 0 σ₁ [] hl];rfl
theorem Wr {fr:Lo}{xe:XE}{f:AV→AV}{σ:Sto}:∀ (l acc:List AV),(∀ a∈l,xe (some a::fr) σ = some (f a,σ))→IU fr BD xe l σ acc=some (acc++l.map f,σ)
  | [],acc,_=>by simp [IU]
  | a::l,acc,h=>by
    unfold IU BD;simp only [Option.bind_some];rw [h a (.head _)];simp only [Option.bind_some];have:=Wr l (acc++[f a]) fun b hb=>h b (.tail _ hb);unfold BD at this;rw [this];simp
theorem SW {fr:Lo}{xt:XT}{xe:XE}{σ:Sto}:∀ (l acc:List AV),(∀ a∈l,xt (some a::fr) σ = some (false,σ))→IU fr xt xe l σ acc=some (acc,σ)
  | [],acc,_=>rfl
  | a::l,acc,h=>by
    unfold IU;rw [h a (.head _)];simp only [Option.bind_some];exact SW l acc fun b hb=>h b (.tail _ hb)
theorem A1d {xi:XI}{fr:List Nat}{xe:XE}{ρ:Lo}{σ σ₁:Sto}{item:DK}{l:List AV}(f:AV→AV)(hi:xi ρ σ = some (item,σ₁))(hs:Sq item l)(hl:l.length≤100000)(h:∀ a∈l,xe (some a::fr.map fun i=>(ρ[i]?).join) σ₁ = some (f a,σ₁)) :
    C7 xi fr BD xe ρ σ = some (.loc σ₁.length,σ₁ ++ [.list (l.map f)]):=by
  rw [MA hi hs hl,Wr l [] h];rfl
theorem Dp {σ:Sto}{o:SO}:(σ ++ [o])[σ.length]? = some o:=by simp
theorem CL {σ:Sto}{o:SO}{n:Nat}{p:SO}(h:σ[n]? = some p):(σ ++ [o])[n]? = some p:=by
  rw [List.getElem?_append_left]
  · exact h
  · rw [List.getElem?_eq_some_iff] at h;exact h.1
theorem IP {σ:Sto}{ds:List D}:frz (.loc σ.length) (σ ++ [.list (ds.map .d)])=some (.lst ds,σ ++ [.dead]):=by
  unfold frz;simp only [Dp,C0,Option.map_some]
  congr 2
  simp
theorem YL {xi:XI}{fr:List Nat}{xe:XE}{ρ:Lo}{σ σ₁:Sto}{item:DK}{l:List AV}(ds:List D)(f:AV→AV)(hi:xi ρ σ = some (item,σ₁))(hs:Sq item l)(hl:l.length≤100000)(h:∀ a∈l,xe (some a::fr.map fun i=>(ρ[i]?).join) σ₁ = some (f a,σ₁))(hd:l.map f=ds.map .d) :
    xFz (C7 xi fr BD xe) ρ σ = some (.d (.lst ds),σ₁ ++ [.dead]):=by
  unfold xFz;rw [A1d f hi hs hl h,Option.bind_some];dsimp only;rw [hd,IP];rfl
noncomputable abbrev sI (n:Int):Str:=Str.ofString (toString n)
theorem A6g (n:Nat):∀ c∈cl (sI (n:Int)),48≤c∧c≤57:=by
  intro c hc;have e:toString ((n:Nat):Int)=toString n:=rfl;unfold sI at hc;rw [e,Str.ofString_eq_toList] at hc;simp only [cl,List.mem_map] at hc;obtain ⟨d,hd,rfl⟩:=hc;have e2:(toString n).toList=Nat.toDigits 10 n:=by
    show (Nat.repr n).toList=_;unfold Nat.repr;exact String.toList_ofList
  rw [e2] at hd;have:=Nat.isDigit_of_mem_toDigits (by decide) (by decide) hd;unfold Char.isDigit at this;simp only [Bool.and_eq_true,decide_eq_true_eq] at this;exact ⟨this.1,this.2⟩
theorem A6f (n:Nat):cl (sI (n:Int))≠[]:=by
  have e:toString ((n:Nat):Int)=toString n:=rfl;unfold sI;rw [e,Str.ofString_eq_toList];have e2:(toString n).toList=Nat.toDigits 10 n:=by
    show (Nat.repr n).toList=_;unfold Nat.repr;exact String.toList_ofList
  simp only [cl,e2];intro h;have:Nat.toDigits 10 n=[]:=by simpa using h
  exact absurd this Nat.toDigits_ne_nil
theorem Sh {sep:Str}{texts:List Str}(B:Nat)(hB:∀ y∈texts,y.length≤B)(h:texts.length * B+texts.length * sep.length≤16777216):JoinOk sep texts=true:=by
  have:=StrLaws.joinFits hB h;unfold JoinOk;rw [this];rfl
theorem sizeLine_eq:sizeLine=16777216:=by decide
section
variable {n:Nat}{i:Int}{x:Str}{l:List D}{C:Addr}{fs:List (Str×D)}{b:Bool}{a' b':Int}
theorem nv_loc:Fy (.loc n)=true:=rfl
theorem nv_int:Fy (.d (.int i))=true:=rfl
theorem nv_str:Fy (.d (.str x))=true:=rfl
theorem nv_lst:Fy (.d (.lst l))=true:=rfl
theorem nv_tup:Fy (.d (.tup l))=true:=rfl
theorem nv_obj:Fy (.d (.obj C fs))=true:=rfl
theorem nv_none:Fy (.d .none)=true:=rfl
theorem nv_bool:Fy (.d (.bool b))=true:=rfl
theorem nv_mod:Fy (.d (Ce a' b' l))=true:=rfl
end
section
variable {i j:Int}{x y:Str}{σ:Sto}{a:AV}
theorem g_lst {l:List D}:AE (.d (.lst l)) (.d (.int i)) σ = if Dv i=true then ((seqIndex? i (l.map AV.d).length).bind ((l.map AV.d)[·]?)).map (fun x=>(x,σ)) else none:=rfl
theorem A1J {n:Nat}:AE (.loc n) (.d (.int i)) σ = if Dv i=true then (AU σ (.loc n)).bind (fun l=>((seqIndex? i l.length).bind (l[·]?)).map fun x=>(x,σ)) else none:=rfl
theorem g_str:AE (.d (.str x)) (.d (.int i)) σ = if Dv i=true then ((seqIndex? i x.length).bind (x.cps[·]?)).map (fun ch=>(AV.d (.str ⟨#[ch]⟩),σ)) else none:=rfl
theorem A7v:Lz (.d (.int i)) (.d (.int j)) σ = if Q8 i j=true then some (AV.d (.int (i * j)),σ) else none:=rfl
theorem A2o:AF .Eq (.d (.int i)) (.d (.int j)) σ = some (.d (.bool (decide (i=j))),σ):=rfl
theorem p_nei:AF .NotEq (.d (.int i)) (.d (.int j)) σ = some (.d (.bool (!decide (i=j))),σ):=rfl
theorem Qs:AF .Eq (.d (.str x)) (.d (.str y)) σ = some (.d (.bool (decide (x=y))),σ):=rfl
theorem A2q:AF .NotEq (.d (.str x)) (.d (.str y)) σ = some (.d (.bool (!decide (x=y))),σ):=rfl
theorem p_lt:AF .Lt (.d (.int i)) (.d (.int j)) σ = some (.d (.bool (decide (i < j))),σ):=rfl
theorem p_le:AF .LtE (.d (.int i)) (.d (.int j)) σ = some (.d (.bool (decide (i≤j))),σ):=rfl
theorem p_gt:AF .Gt (.d (.int i)) (.d (.int j)) σ = some (.d (.bool (decide (j < i))),σ):=rfl
theorem p_ge:AF .GtE (.d (.int i)) (.d (.int j)) σ = some (.d (.bool (decide (j≤i))),σ):=rfl
theorem A7s:AH (.d (.int i)) (.d (.int j)) σ = some (.d (.int (i+j)),σ):=rfl
theorem I9:AH (.d (.str x)) (.d (.str y)) σ = if x.length+y.length≤sizeLine then some (.d (.str (x++y)),σ) else none:=rfl
theorem YX {l l':List D}:AH (.d (.lst l)) (.d (.lst l')) σ = if (l.map AV.d).length+(l'.map AV.d).length≤sizeLine then some (.loc σ.length,σ ++ [.list (l.map .d++l'.map .d)]) else none:=rfl
theorem A2r:J2 (.d (.int i)) (.d (.int j)) σ = some (.d (.int (i - j)),σ):=rfl
theorem A7u:Ch (.d (.int i)) (.d (.int j)) σ = if j=0 then none else some (.d (.int (i.fmod j)),σ):=rfl
theorem A7t:JC (.d (.int i)) (.d (.int j)) σ = if j=0 then none else some (.d (.int (i.fdiv j)),σ):=rfl
theorem p_is:AF .Is a (.d .none) σ = (isNone a).map fun b=>(.d (.bool b),σ):=by cases a <;> rfl
theorem p_isn:AF .IsNot a (.d .none) σ = (isNone a).map fun b=>(.d (.bool (!b)),σ):=by cases a <;> rfl
end
theorem Iw (l:List Str):Ga (l.map fun x=>.d (.str x))=some l:=by
  induction l with
  | nil=>rfl
  | cons x l ih=>simp only [List.map_cons,Ga,ih,Option.map_some]
theorem Y3 (n:Nat)(h:n < 10000):(sI (n:Int)).length≤4:=by
  have e:toString ((n:Nat):Int)=toString n:=rfl;unfold sI;rw [e,PySem.ofString_length];show (Nat.repr n).length≤4;exact (Nat.length_repr_le_iff (by decide)).mpr h
theorem Qq {x:XC}{args:List AV}{d:D}{σ:Sto}(ds:List D)(h:args=ds.map .d)(e:x args []=some (.d d,σ)):NL (Bc x args [])=some d:=by
  subst h;show NL ((Ez (ds.map .d)).bind fun ξ=>(x _ []).bind _)=_;rw [C0,e];rfl
theorem A0C (n:Int) (h0:0≤n) (h1:n < 9999)(σ:Sto):Hs [.d (ti [n])] σ = some (.d (.str (s!" " ++ sI n)),σ):=by
  refine Br ?_ σ;have hl:n.natAbs.log2 < 1920:=by
    rcases Nat.eq_zero_or_pos n.natAbs with e | e
    · rw [e];decide
    · have:n.natAbs.log2 < 20:=(Nat.log2_lt (Nat.ne_of_gt e)).mpr (by omega)
      omega
  obtain ⟨k,rfl⟩:=Int.eq_ofNat_of_zero_le h0;have hk:(Str.ofString (toString (k:Int))).length≤4:=Y3 k (by omega);have hs:s!" ".length+(Str.ofString (toString (k:Int))).length≤16777216:=by
    rw [show s!" ".length=1 from by decide +kernel];omega
  have hy:NZ [.d (.int k)] []=some (.d (.str (Str.ofString (toString (k:Int)))),[]):=e_b (if_pos hl) rfl;have hx:(Ai AH (xD (.str s!" ")) (Av (A8 (Aa 0) Af) NZ)) [some (.d (.int k))] []=some (.d (.str (s!" " ++ sI k)),[]):=by
    erw [hy,← I9.trans (if_pos hs)]
  have hc:=YL (xi:=xIt (Aa 0)) (fr:=[]) (xe:=Ai AH (xD (.str s!" ")) (Av (A8 (Aa 0) Af) NZ)) (ρ:=[some (.d (ti [(k:Int)]))]) (σ:=[]) (σ₁:=[]) [.str (s!" " ++ sI k)] (fun ξ=>.d (.str (s!" " ++ sI k))) (rfl) (A7A [.int k]) (by simp) (by
      intro a ha;simp only [List.map_cons,List.map_nil,List.mem_singleton] at ha;subst ha;exact hx) rfl
  have hj:JoinOk s!"" [s!" " ++ sI k]=true:=Sh 10 (by
    intro y hy;rw [List.mem_singleton.mp hy,BA,show s!" ".length=1 from by decide +kernel];show 1+(Str.ofString (toString (k:Int))).length≤10;omega) (by simp only [List.length_singleton];decide +kernel)
  have jn:∀ σ,Di [.d (.str s!""),.d (.lst [.str (s!" " ++ sI k)])] σ = some (.d (.str (s!" " ++ sI k)),σ):=fun σ=>e_b rfl (e_b rfl (if_pos hj));exact Qq [ti [(k:Int)]] rfl (K8 rfl (VG (A4Q (A1l e_D rfl (IN hc Q2) (jn _))) e_kr) rfl)
theorem A7g (σ:Sto):O1 [.d (.int 65)] σ = some (.d (.str s!"i32.const"),σ):=Br (by kernel_rfl) σ
theorem A6s (σ:Sto):O0 [.d (.int 65)] σ = some (.d (.str s!"i32"),σ):=Br (by kernel_rfl) σ
noncomputable abbrev Lr (n:Int):Str:=s!"i32.const" ++ (s!" " ++ sI n)
theorem tail1 (c:Int)(l:List Int)(σ:Sto):Ie true (.d (ti (c::l))) (.d (.int 1)) (.d .none) σ = if (l.length+1≤sizeLine) then some (.d (ti l),σ) else none:=by
  show (if (none:Option Int).isNone=true∧(D.int c::l.map .int).length≤sizeLine∧1≤1∧1≤(D.int c::l.map .int).length then some (AV.d (.tup (List.drop 1 (D.int c::l.map .int))),σ) else none)=_;have e:(D.int c::l.map .int).length=l.length+1:=by rw [List.length_cons,List.length_map]
  by_cases h:l.length+1≤sizeLine
  · rw [if_pos h,if_pos ⟨rfl,e ▸ h,Nat.le_refl _,e ▸ Nat.succ_le_succ (Nat.zero_le _)⟩];rfl
  · rw [if_neg h,if_neg (fun k=>h (e ▸ k.2.1))]
theorem cne {a b:String}{σ:Sto}(h:decide (Str.ofString a=Str.ofString b)=false):AF .Eq (.d (.str (Str.ofString a))) (.d (.str (Str.ofString b))) σ = some (.d (.bool false),σ):=by rw [Qs,h]
theorem it65x {t:D}{n:Int}{w:Str}{ds:List D}(hg:AE (.d (ti [65,n])) (.d (.int 0)) []=some (.d (.int 65),[]))(ht:Ie true (.d (ti [65,n])) (.d (.int 1)) (.d .none) []=some (.d (.tup ds),[]))(hw:Hs [.d (.tup ds)] []=some (.d (.str w),[]))
    (ha:AH (.d (.str s!"i32.const")) (.d (.str w)) []=some (.d (.str (s!"i32.const" ++ w)),[])):By 2 4 CA [.d t,.d (ti [65,n])] []=some (.d (.str (s!"i32.const" ++ w)),[]):=by
  apply K8
  · rfl
  · unfold CA
    erw [hg,ht,hw,ha,A7g _,A6s _,cne (by decide +kernel),← ⟨(by decide:(2:Nat)≤sizeLine),rfl⟩]
  · rfl
theorem it65 (t:D)(n:Int) (h0:0≤n) (h1:n < 9999)(σ:Sto):B5 [.d t,.d (ti [65,n])] σ = some (.d (.str (Lr n)),σ):=by
  refine Br ?_ σ;have hn:s!"i32.const".length+(s!" " ++ sI n).length≤sizeLine:=by
    obtain ⟨k,rfl⟩:=Int.eq_ofNat_of_zero_le h0;have hk:=Y3 k (by omega);rw [BA,show s!" ".length=1 from by decide +kernel,show s!"i32.const".length=9 from by decide +kernel,sizeLine_eq];omega
  exact Qq [t,ti [65,n]] rfl (it65x rfl ((tail1 65 [n] []).trans (if_pos (by show 2≤sizeLine;decide))) (A0C n h0 h1 []) (I9.trans (if_pos hn)))
theorem pr65 (t:D)(n:Int) (h0:0≤n) (h1:n < 9999)(σ:Sto):BB [.d t,.d (ti [65,n])] σ = some (.d (.str (Lr n)),σ):=by
  refine Br ?_ σ;have hf:xFz (Av (A8 (AJ Af) (A8 (AJ Af) Af)) KI) [some (.d t),some (.d (.tup [.int 65,.int n]))] []=some (.d (Z8 [] []),[.dead]):=rfl;refine Qq [t,ti [65,n]] rfl (σ:=[.dead]) ?_;exact K8 rfl (VG (A4Q (Xo (IN hf (IN (HI rfl) Q2)) (it65 _ n h0 h1 _))) e_kr) rfl
theorem co65 (a b:Int)(ops:List D)(n:Int)(σ:Sto):C9 [.d (Ce a b ops),.d (ti [65,n])] σ = some (.d (cnD (some (0,1))),σ):=Br (by kernel_rfl) σ
theorem lc65 (a b n:Int)(σ:Sto):CV [.d (ti [65,n]),.d (G4 a b)] σ = some (.d (cnD (some (0,1))),σ):=Br (by kernel_rfl) σ
theorem A2h {c:Nat}(h:48≤c∧c≤57):Unicode.isSpace c=false:=by
  have k:∀ i:Fin 10,Unicode.isSpace (48+i.1)=false:=by decide +kernel
  have:=k ⟨c - 48,by omega⟩;rwa [Nat.add_sub_cancel' h.1] at this
theorem A6A (k:Nat)(h:k < 9999):good (Lr k)=true:=by
  have hd:=A6g k;have hne:=A6f k;have hk:=Y3 k (by omega);have e32:s!" " = spc:=by decide +kernel
  have eI:cl s!"i32.const" = [105,51,50,46,99,111,110,115,116]:=by decide +kernel
  have ht:tk (Lr k)=[s!"i32.const",sI k]:=by
    unfold Lr;rw [e32,← Str.append_assoc,A45];have h1:tk s!"i32.const" = [s!"i32.const"]:=by decide +kernel
    have h2:rp (cl (sI k))=cl (sI k):=by
      unfold rp;rw [MQ 40 _ _ (fun h=>by have:=hd _ h;omega),MQ 41 _ _ (fun h=>by have:=hd _ h;omega)]
    rw [h1];unfold tk;rw [h2,A0T (by
      rw [List.all_eq_true];intro c hc;rw [A2h (hd c hc)];rfl) hne]
    rfl
  have hp:GE (sI k)=false:=by
    unfold GE;rw [Bool.or_eq_false_iff];refine ⟨decide_eq_false fun e=>?_,decide_eq_false fun e=>?_⟩
    · have:=hd 40 (by rw [e];decide);omega
    · have:=hd 41 (by rw [e];decide);omega
  have hp0:GE s!"i32.const" = false:=by decide +kernel
  have hw:FC (tk (Lr k))=some [s!"i32.const",sI k]:=by
    rw [ht];simp only [FC,hp,hp0,Bool.false_eq_true,if_false,Option.map_some]
  have hj:Str.join spc [s!"i32.const",sI k]=Lr k:=by
    unfold Lr;rw [e32,← Str.append_assoc];rfl
  have hr:K9 s!"i32.const" = false:=by decide +kernel
  have hcp:s!"i32.const".cps.all (· < 0x110000)=true:=by decide +kernel
  have hc:cl (Lr k)=[105,51,50,46,99,111,110,115,116]++(32::cl (sI k)):=by
    unfold Lr;rw [BT,BT,e32,eI];rfl
  have hl:(Lr k).length≤60:=by
    rw [Gk] at hk;rw [Gk,hc,List.length_append];simp only [List.length_cons,List.length_nil];omega
  have h10:(cl (Lr k)).contains 10=false:=by
    rw [hc];have:¬ 10∈cl (sI k):=fun h=>by have:=hd _ h;omega
    simpa using this
  have hcp2:(Lr k).cps.all (· < 0x110000)=true:=by
    rw [← Array.all_toList];show (cl (Lr k)).all (· < 0x110000)=true;rw [List.all_eq_true];intro c hm;rw [hc] at hm;refine decide_eq_true ?_;rcases List.mem_append.mp hm with hm | hm
    · simp only [List.mem_cons,List.not_mem_nil,or_false] at hm
      omega
    · rcases List.mem_cons.mp hm with rfl | hm
      · decide
      · have:=hd c hm
        omega
  have hm:(match cl (Lr k) with
    | c::_=>!(c == 40) && !(c == 32)
    | []=>false)=true:=by rw [hc];rfl
  unfold good;rw [hw];simp only [hj,hr,h10,hl,hcp,hcp2,decide_true,Bool.not_false,Bool.and_self];rw [Bool.true_and];exact hm
structure UZ (a b:Int) (ops:List D) (op:D) (tx:Str) (cn:Option (Nat×Nat)):Prop where
  pr:∀ σ,BB [.d (Ce a b ops),.d op] σ = some (.d (.str tx),σ)
  it:∀ σ,B5 [.d EC,.d op] σ = some (.d (.str tx),σ)
  co:∀ σ,C9 [.d (Ce a b ops),.d op] σ = some (.d (cnD cn),σ)
  lc:∀ σ,CV [.d op,.d (G4 a b)] σ = some (.d (cnD cn),σ)
  gd:good tx=true
  sm:∀ p q,cn=some (p,q)→p≤10∧q≤10
  fm:opF op=true
theorem Wa {x:XC}{args:List AV}{t:Str}(h:rdT (NL (Bc x args []))=some t)(σ:Sto):Bc x args σ = some (.d (.str t),σ):=by
  refine Br ?_ σ;revert h;cases NL (Bc x args []) with
  | none=>intro h;cases h
  | some d=>cases d <;> intro h <;> first | (cases h;rfl) | cases h
theorem A4O {d:D}{p:Nat}(h:dI d=some p):d=.int p:=by
  cases d with
  | int i=>cases i with
    | ofNat n=>cases h;rfl
    | negSucc n=>cases h
  | _=>cases h
theorem A2y {d:D}{c:Option (Nat×Nat)}(h:rdD d=some c):d=cnD c∧∀ p q,c=some (p,q)→p≤10∧q≤10:=by
  cases d with
  | none=>cases h;exact ⟨rfl,nofun⟩
  | tup l=>cases l with
    | nil=>cases h
    | cons a l=>cases l with
      | nil=>cases h
      | cons b l=>cases l with
        | cons=>cases h
        | nil =>
          have h:((dI a).bind fun p=>(dI b).bind fun q=>if p≤10∧q≤10 then some (some (p,q)) else none)=some c:=h;refine oB h fun p e1 h=>oB h fun q e2 h=>?_;obtain ⟨hz,rfl⟩:=Bq h;exact ⟨by rw [A4O e1,A4O e2];rfl,fun p' q' e=>by cases e;exact hz⟩
  | _=>cases h
theorem Qp {x:XC}{args:List AV}{c:Option (Nat×Nat)}(h:rdC (NL (Bc x args []))=some c):(∀ σ,Bc x args σ = some (.d (cnD c),σ))∧∀ p q,c=some (p,q)→p≤10∧q≤10:=
  oB h fun d e1 e=>⟨Br (by rw [e1,(A2y e).1]),(A2y e).2⟩
set_option tactic.hygienic true in
theorem A25 {a b:Int}{ops:List D}{op:D}(h:chk a b ops op=true):∃ tx cn,UZ a b ops op tx cn:=by
  unfold chk at h;rw [Bool.and_eq_true,Bool.and_eq_true] at h;obtain ⟨⟨h1,h2⟩,h3⟩:=h;split at h1
  · rename_i t t' e1 e2
    rw [Bool.and_eq_true,decide_eq_true_eq] at h1;obtain ⟨rfl,hg⟩:=h1;split at h2
    · rename_i c c' e3 e4
      rw [decide_eq_true_eq] at h2;subst h2;exact ⟨t,c,Wa e1,Wa e2,(Qp e3).1,(Qp e4).1,hg,(Qp e3).2,h3⟩
    · cases h2
  · cases h1
theorem A5l (a b:Int)(ops:List D)(n:Int) (h0:0≤n) (h1:n < 9999):∃ tx cn,UZ a b ops (ti [65,n]) tx cn:=by
  refine ⟨Lr n,some (0,1),pr65 _ n h0 h1,it65 _ n h0 h1,co65 a b ops n,lc65 a b n,?_,fun p q e=>by cases e;decide,rfl⟩;obtain ⟨k,rfl⟩:=Int.eq_ofNat_of_zero_le h0;exact A6A k (by omega)
theorem ZX (ops:List D)(x y d:Int):∀ op∈Iv d,∃ tx cn,UZ (x.fmod 4) (y.fmod 4) ops op tx cn:=
  A4a ops x y d _ (fun ξ h=>A25 h) (A5l _ _ ops _ (Int.fmod_nonneg_of_pos d (by decide)) (Int.fmod_lt_of_pos d (by decide)))
theorem A2C {asg:XA}{body:XS}(Inv:List AV→Lo→Sto→Prop)
    (step:∀ a l ρ σ,Inv (a::l) ρ σ→∃ ρ₁ σ₁ ρ' σ',asg a ρ σ = some (ρ₁,σ₁)∧body ρ₁ σ₁ = some (.next,ρ',σ')∧Inv l ρ' σ') :
    ∀ l ρ σ,Inv l ρ σ→∃ ρ' σ',Kr asg body l ρ σ = some (.next,ρ',σ')∧Inv [] ρ' σ'
  | [],ρ,σ,h=>⟨ρ,σ,rfl,h⟩
  | a::l,ρ,σ,h=>by
    obtain ⟨ρ₁,σ₁,ρ₂,σ₂,e1,e2,h2⟩:=step a l ρ σ h;obtain ⟨ρ',σ',e3,h3⟩:=A2C Inv step l ρ₂ σ₂ h2;refine ⟨ρ',σ',?_,h3⟩;unfold Kr;rw [e1,Option.bind_some];dsimp only;rw [e2,Option.bind_some];exact e3
theorem Qa (l:List D)(x:D)(σ:Sto)(h:l.length+1≤16777216):Ie true (.d (.lst (l++[x]))) (.d .none) (.d (.int (-1))) σ = some (.d (.lst l),σ):=by
  have e:Gv ((l++[x]).map AV.d) none (some (-1))=l.map AV.d:=by
    unfold Gv;have h1:kms_lo none ((l++[x]).map AV.d).length=0:=rfl;have h2:kms_hi (some (-1)) ((l++[x]).map AV.d).length=l.length:=by
      simp [kms_hi]
    rw [h1,h2];simp
  have hz:((l++[x]).map AV.d).length≤sizeLine:=by
    rw [sizeLine_eq,List.length_map,List.length_append];exact h
  show (if ((l++[x]).map AV.d).length≤sizeLine then (Ez (Gv ((l++[x]).map AV.d) none (some (-1)))).map (fun ds=>(AV.d (.lst ds),σ)) else none)=_;rw [if_pos hz,e,C0];rfl
set_option tactic.hygienic true in
theorem YE {op:D}(h:opF op=true):∃ c:Int,(∀ σ,AE (.d op) (.d (.int 0)) σ = some (.d (.int c),σ))∧c≠2∧c≠3∧c≠4∧c≠5∧c≠11:=by
  unfold opF at h;split at h
  · rename_i c l
    rw [Bool.and_eq_true] at h;have h1:=h.1;simp only [List.all_cons,List.all_nil,Bool.and_true,Bool.and_eq_true,Bool.not_eq_true',beq_eq_false_iff_ne,ne_eq] at h1;obtain ⟨a1,a2,a3,a4,a5⟩:=h1;refine ⟨c,fun σ=>?_,fun e=>a1 e.symm,fun e=>a2 e.symm,fun e=>a3 e.symm,fun e=>a4 e.symm,fun e=>a5 e.symm⟩;have hs:seqIndex? 0 (D.int c::l).length=some 0:=by
      rw [StrLaws.seqIndex_nonneg (by decide) (by simp only [List.length_cons];omega)];rfl
    show (if Dv 0=true then ((seqIndex? 0 (D.int c::l).length).bind ((D.int c::l)[·]?)).map (fun x=>(AV.d x,σ)) else none)=_;rw [if_pos (by decide),hs];rfl
  · cases h
theorem A2p {x:Str}{n:Int}{σ:Sto}:Lz (.d (.str x)) (.d (.int n)) σ = if n=1 then some (.d (.str x),σ) else none:=rfl
theorem in2 {c:Int}{σ:Sto} (h1:c≠5) (h2:c≠11):AF .In (.d (.int c)) (.d (.tup [.int 5,.int 11])) σ = some (.d (.bool false),σ):=by
  show some (AV.d (.bool (([5,11]:List Int).contains c)),σ)=_;have:([5,11]:List Int).contains c=false:=by simp [h1,h2]
  rw [this]
theorem in3 {c:Int}{σ:Sto} (h1:c≠2) (h2:c≠3) (h3:c≠4):AF .In (.d (.int c)) (.d (.tup [.int 2,.int 3,.int 4])) σ = some (.d (.bool false),σ):=by
  show some (AV.d (.bool (([2,3,4]:List Int).contains c)),σ)=_;have:([2,3,4]:List Int).contains c=false:=by simp [h1,h2,h3]
  rw [this]
theorem in4 {c:Int}{σ:Sto} (h1:c≠2) (h2:c≠3) (h3:c≠4) (h4:c≠5):AF .In (.d (.int c)) (.d (.tup [.int 2,.int 3,.int 4,.int 5])) σ = some (.d (.bool false),σ):=by
  show some (AV.d (.bool (([2,3,4,5]:List Int).contains c)),σ)=_;have:([2,3,4,5]:List Int).contains c=false:=by simp [h1,h2,h3,h4]
  rw [this]
theorem Hd {t:Str}(h:good t=true):t.length≤60:=by
  unfold good at h;simp only [Bool.and_eq_true,decide_eq_true_eq] at h;exact h.1.1.2
noncomputable abbrev stp:Str:=s!"  "
theorem KV:stp.length=2:=by decide +kernel
noncomputable abbrev Jx (t:Str):D:=.str (stp++t)
noncomputable abbrev TC:=Str×Option (Nat×Nat)
noncomputable abbrev Ops (a b:Int) (ops:List D) (l:List D) (tcs:List TC):Prop:=B1 (fun op (p:TC)=>UZ a b ops op p.1 p.2) l tcs
theorem YI {i:Nat}{B:XS}{a:AV}{l:List AV}{ρ ρ':Lo}{σ σ':Sto}{R:Option (Fl×Lo×Sto)}(h:B (ρ.set i (some a)) σ = some (.next,ρ',σ'))(k:Kr (BN i) B l ρ' σ'=R):Kr (BN i) B (a::l) ρ σ = R:=by unfold Kr;exact e_b rfl (e_b h k)
noncomputable def Z0:XS:=(Al (Bm 5 (Ai AE (Aa 4) (xD (.int 0)))) (Al (AO (xTr (Ai (AF .In) (Aa 5) (B2 (A8 (xD FL) (A8 (xD M0) Af))))) (Al Fp Am) Am) (Al (xSt (xMt (CR Hx) (Aa 3) (A8 (Ai AH (Ai Lz (xD Eb) (Aa 2)) (Av (A8 (Aa 0) (A8 (Aa 4) Af)) B5)) Af))) (Al (AO (xTr (Ai (AF .In) (Aa 5) (B2 (A8 (xD Ha) (A8 (xD IL) (A8 (xD PO) (A8 (xD FL) Af))))))) (Al Fp Am) Am) Am))))
section
variable {op:D}{t:Str}{X:AV} {x5:Option AV}{c:Int}{acc l':List AV}{σ:Sto}
theorem A0m (hc:∀ σ,AE (.d op) (.d (.int 0)) σ = some (.d (.int c),σ)) (n2:c≠2) (n3:c≠3) (n4:c≠4) (n5:c≠5) (n11:c≠11)(hi:∀ σ,B5 [.d EC,.d op] σ = some (.d (.str t),σ))(hz:t.length≤60)(ha:acc.length≤sizeLine)(e:acc++[.d (Jx t)]=l') :
    Z0 [some (.d EC),some X,some (.d (.int 1)),some (.loc 0),some (.d op),x5] [.list acc]=some (.next,[some (.d EC),some X,some (.d (.int 1)),some (.loc 0),some (.d op),some (.d (.int c))],[.list l']):=by
  have m1:Lz (.d Eb) (.d (.int 1)) [SO.list acc]=some (.d (.str stp),[SO.list acc]):=(A2p (x:=stp)).trans (if_pos rfl);have a1:AH (.d (.str stp)) (.d (.str t)) [SO.list acc]=some (.d (.str (stp++t)),[SO.list acc]):=by rw [I9,if_pos (by rw [KV,sizeLine_eq];omega)]
  unfold Z0;erw [hc _,hi _,a1,ha,e,← m1,← in2 n5 n11,← in4 n2 n3 n4 n5,← (by decide:(2:Nat)≤sizeLine),← (by decide:(4:Nat)≤sizeLine)]
end
theorem A2B {a b:Int}{ops:List D}{X:AV}{l:List D}{tcs:List TC}(H:Ops a b ops l tcs):∀ {acc:List D} {x4 x5:Option AV},acc.length+l.length≤1000 →
    ∃ x4' x5',Kr (BN 4) Z0 (l.map .d) [some (.d EC),some X,some (.d (.int 1)),some (.loc 0),x4,x5] [.list (acc.map .d)]=some (.next,[some (.d EC),some X,some (.d (.int 1)),some (.loc 0),x4',x5'],[.list ((acc++tcs.map fun p=>Jx p.1).map .d)]):=by
  induction H with
  | nil=>exact fun {acc x4 x5} ξ=>⟨x4,x5,by simp only [List.map_nil,List.append_nil];rfl⟩
  | @cons op p l tcs ho hr ih =>
    intro acc x4 x5 hz;rw [List.length_cons] at hz;obtain ⟨c,hc,n2,n3,n4,n5,n11⟩:=YE ho.fm;obtain ⟨x4',x5',e⟩:=@ih (acc++[Jx p.1]) (some (.d op)) (some (.d (.int c))) (by rw [List.length_append];show _+1 + _≤_;omega);rw [List.append_assoc] at e;exact ⟨x4',x5',YI (A0m hc n2 n3 n4 n5 n11 ho.it (Hd ho.gd) (by rw [List.length_map,sizeLine_eq];omega) (by rw [List.map_append];rfl)) e⟩
theorem A2A {X:AV}{l:List D} {x4 x5:Option AV} (e1:DL (xIt (xSl true (Aa 1) (xD .none) (ED (xD (.int 1))))) (BN 4) Z0 [some (.d EC),some X,some (.d (.int 1)),some (.loc 0),none,none] [.list []]=some (.next,[some (.d EC),some X,some (.d (.int 1)),some (.loc 0),x4,x5],[.list (l.map .d)])) :
    By 3 3 F0 [.d EC,X,.d (.int 1)] []=some (.d (.lst l),[.dead]):=by
  have hf:frz (.loc 0) [SO.list (l.map AV.d)]=some (.lst l,[.dead]):=by
    show (Ez (l.map AV.d)).map _=_;rw [C0];rfl
  unfold F0;apply K8
  · rfl
  · erw [← e1,← (by decide:(0:Nat)≤sizeLine),← hf]
  · rfl
theorem YM {f:AV}{ρ:Lo}{σ:Sto}{X:AV}{l:List D}(h:Ie true X (.d .none) (.d (.int (-1))) σ = some (.d (.lst l),σ)):xIt (xSl true (Aa 1) (xD .none) (ED (xD (.int 1)))) (some f::some X::ρ) σ = some (GF (.d (.lst l)),σ):=
  e_b (a:=(.d (.lst l),σ)) (A1m (HI rfl) e_D (e_b rfl rfl) h) rfl
theorem Ty {a b:Int}{ops:List D}{l:List D}{tcs:List TC}(H:Ops a b ops l tcs)(hl:l.length≤100)(σ:Sto) :
    Gf [.d EC,.d (.lst (l++[ti [11]])),.d (.int 1)] σ = some (.d (.lst (tcs.map fun p=>Jx p.1)),σ):=by
  refine Br ?_ σ;have hsl:=Qa l (ti [11]) [.list []] (by omega);obtain ⟨x4,x5,e⟩:=A2B (X:=.d (.lst (l++[ti [11]]))) H (acc:=[]) (x4:=none) (x5:=none) (by show 0 + _≤_;omega);have e0:=A2A ((MG (YM hsl) (Md l) (by rw [List.length_map];omega)).trans e);show NL ((Ez _).bind fun ξ=>(By 3 3 F0 _ []).bind _)=_;rw [e0];rfl
theorem QU {xi:XI}{asg:XA}{body:XS}{ρ:Lo}{σ σ₁:Sto}{item:DK}(l:List AV)(Inv:List AV→Lo→Sto→Prop)(hi:xi ρ σ = some (item,σ₁))
    (hs:∀ ρ σ i,Inv (l.drop i) ρ σ→item i σ = some (l[i]?))
    (step:∀ a r ρ σ,Inv (a::r) ρ σ→∃ ρ₁ σ₁ ρ' σ',asg a ρ σ = some (ρ₁,σ₁)∧body ρ₁ σ₁ = some (.next,ρ',σ')∧Inv r ρ' σ')
    (hl:l.length≤100000) (h0:Inv l ρ σ₁):∃ ρ' σ',DL xi asg body ρ σ = some (.next,ρ',σ')∧Inv [] ρ' σ':=by
  have key:∀ (n i:Nat) (ρ:Lo) (σ:Sto),l.length≤n+i→Inv (l.drop i) ρ σ→∃ ρ' σ',Iz item asg body n i ρ σ = some (.next,ρ',σ')∧Inv [] ρ' σ':=by
    intro n
    induction n with
    | zero =>
      intro i ρ σ h hI;have e:l[i]? = none:=List.getElem?_eq_none (by omega);have hd:l.drop i=[]:=by rw [DV,e]
      refine ⟨ρ,σ,?_,by rw [hd] at hI;exact hI⟩;unfold Iz;rw [hs ρ σ i hI,e]
    | succ n ih =>
      intro i ρ σ h hI;cases e:l[i]? with
      | none =>
        have hd:l.drop i=[]:=by rw [DV,e]
        refine ⟨ρ,σ,?_,by rw [hd] at hI;exact hI⟩;unfold Iz;rw [hs ρ σ i hI,e]
      | some a =>
        have hd:l.drop i=a::l.drop (i+1):=by rw [DV,e]
        have hI':=hI;rw [hd] at hI';obtain ⟨ρ₁,σ₁,ρ₂,σ₂,e1,e2,h2⟩:=step a _ ρ σ hI';obtain ⟨ρ',σ',e3,h3⟩:=ih (i+1) ρ₂ σ₂ (by omega) h2;refine ⟨ρ',σ',?_,h3⟩;unfold Iz;rw [hs ρ σ i hI,e];dsimp only;rw [e1,Option.bind_some];dsimp only;rw [e2,Option.bind_some];exact e3
  obtain ⟨ρ',σ',e,h⟩:=key Oe 0 ρ σ₁ hl h0;refine ⟨ρ',σ',?_,h⟩;unfold DL;rw [hi,Option.bind_some];exact e
noncomputable def Bh (M:D)(nR nV:Nat):List (Str×AV):=[(s!"module",.d M),(s!"told",.d EC),(s!"depth",.d (.int 1)),(s!"rows",.loc nR),(s!"values",.loc nV),(s!"closers",.d (.lst []))]
section
variable (M:D)(nR nV v:Nat)
theorem VI:(Bh M nR nV).lookup s!"module" = some (.d M):=by kernel_rfl
theorem A1t:(Bh M nR nV).lookup s!"told" = some (.d EC):=by kernel_rfl
theorem A3Q:(Bh M nR nV).lookup s!"depth" = some (.d (.int 1)):=by kernel_rfl
theorem A1r:(Bh M nR nV).lookup s!"rows" = some (.loc nR):=by kernel_rfl
theorem MF:(Bh M nR nV).lookup s!"values" = some (.loc nV):=by kernel_rfl
theorem A4R:MP s!"values" (.loc v) (Bh M nR nV)=Bh M nR v:=by kernel_rfl
theorem f_len:(Bh M nR nV).length=6:=rfl
theorem A1q:(Bh M nR nV).lookup s!"row" = none:=by kernel_rfl
theorem TY:(Bh M nR nV).lookup s!"flush" = none:=by kernel_rfl
theorem A1s:(Bh M nR nV).lookup s!"single" = none:=by kernel_rfl
theorem A6p:(Bh M nR nV).lookup s!"fold" = none:=by kernel_rfl
theorem c744:(([744]:List Addr).contains 744)=true:=by decide
end
noncomputable abbrev sD (t:Str):D:=.str t
structure FI (base:Sto) (M:D) (nI nR nV:Nat) (rows vals:List Str) (σ:Sto):Prop where
  hI:σ[nI]? = some (.inst 744 (Bh M nR nV))
  hR:σ[nR]? = some (.list ((rows.map Jx).map .d))
  hV:σ[nV]? = some (.list ((vals.map sD).map .d))
  l1:nI < nR
  l2:nI < nV
  ne:nR≠nV
  bs:∀ m,m < nI→σ[m]? = base[m]?
theorem GY {σ:Sto}{n:Nat}{o:SO}(h:σ[n]? = some o):n < σ.length:=by
  rw [List.getElem?_eq_some_iff] at h;exact h.1
theorem Fg {σ:Sto}{n:Nat}{o p:SO}(h:σ[n]? = some p):(σ.set n o)[n]? = some o:=by
  rw [List.getElem?_set_self (GY h)]
theorem AW {σ:Sto}{n m:Nat}{o:SO}(h:n≠m):(σ.set n o)[m]? = σ[m]?:=List.getElem?_set_ne h
section
variable {base:Sto}{M:D}{nI nR nV:Nat}{rows vals:List Str}{σ:Sto}
theorem FI.app (h:FI base M nI nR nV rows vals σ)(o:SO):FI base M nI nR nV rows vals (σ ++ [o]):=
  ⟨CL h.hI,CL h.hR,CL h.hV,h.l1,h.l2,h.ne,fun m hm=>by
    rw [← h.bs m hm,List.getElem?_append_left];have:=GY h.hI;omega⟩
theorem FI.addRow (h:FI base M nI nR nV rows vals σ)(t:Str):FI base M nI nR nV (rows++[t]) vals (σ.set nR (.list (((rows++[t]).map Jx).map .d))):=
  ⟨by rw [AW (by have:=h.l1;omega)];exact h.hI,Fg h.hR,by rw [AW h.ne];exact h.hV,h.l1,h.l2,h.ne,fun m hm=>by
    rw [AW (by have:=h.l1;omega)];exact h.bs m hm⟩
theorem FI.setVals (h:FI base M nI nR nV rows vals σ)(vs:List Str):FI base M nI nR nV rows vs (σ.set nV (.list ((vs.map sD).map .d))):=
  ⟨by rw [AW (by have:=h.l2;omega)];exact h.hI,by rw [AW (fun e=>h.ne e.symm)];exact h.hR,Fg h.hV,h.l1,h.l2,h.ne,fun m hm=>by
    rw [AW (by have:=h.l2;omega)];exact h.bs m hm⟩
theorem FI.newVals (h:FI base M nI nR nV rows vals σ)(vs:List Str):FI base M nI nR σ.length rows vs ((σ ++ [SO.list ((vs.map sD).map .d)]).set nI (SO.inst 744 (Bh M nR σ.length))):=by
  have a1:=GY h.hI;have a2:=GY h.hR;refine ⟨Fg (CL h.hI),?_,?_,h.l1,a1,by omega,fun m hm=>?_⟩
  · rw [AW (by have:=h.l1;omega)];exact CL h.hR
  · rw [AW (by omega)];exact Dp
  · rw [AW (by omega),List.getElem?_append_left (by omega)];exact h.bs m hm
end
section
variable {M:D} {nI nR nV k k2:Nat}{t:Str}{σ σ₁ σ₂ σ':Sto} {y1:Option AV}{l l':List AV}{w:Str}
theorem row_x (hI:σ[nI]? = some (.inst 744 (Bh M nR nV))) (m1:Lz (.d Eb) (.d (.int 1)) σ = some (.d (.str w),σ)) (a1:AH (.d (.str w)) (.d (.str t)) σ = some (.d (.str (stp++t)),σ))(hR:σ[nR]? = some (.list l))(hl:l.length≤sizeLine)(e:l++[.d (.str (stp++t))]=l') :
    BF [.loc nI,.d (.str t)] σ = some (.d .none,σ.set nR (.list l')):=by
  show By 2 0 Fq _ _=_;unfold Fq;apply K8
  · rfl
  · erw [a1,hI,hR,hl,e,A1r _ _ _,A3Q _ _ _,← m1]
  · rfl
noncomputable def TZ:XS:=(Al (xSt (xMt (Bz s!"row" (mC 744 BF mN)) (Aa 0) (A8 (Aa 1) Af))) Am)
theorem Xw (hI:σ[nI]? = some (.inst 744 (Bh M nR nV)))(e:BF [.loc nI,.d (.str t)] σ = some (.d .none,σ')):TZ [some (.loc nI),some (.d (.str t))] σ = some (.next,[some (.loc nI),some (.d (.str t))],σ'):=by
  unfold TZ;erw [hI,e,A1q _ _ _]
theorem ZI (e1:DL (xIt (Ay [744] s!"values" (Aa 0))) (BN 1) TZ [some (.loc nI),none] σ = some (.next,[some (.loc nI),y1],σ'))(hI:(σ'++[SO.list []])[nI]? = some (.inst 744 (Bh M nR nV))) :
    Bv [.loc nI] σ = some (.d .none,(σ'++[SO.list []]).set nI (.inst 744 (Bh M nR σ'.length))):=by
  show By 1 1 E2 _ _=_;unfold E2;apply K8
  · rfl
  · erw [hI,A4R _ _ _ _,← e1,← (by decide:(0:Nat)≤sizeLine),← (by decide:(6:Nat) < 1000)]
  · rfl
end
section
variable {base:Sto}{M:D}{nI nR nV:Nat}{rows vals:List Str}{σ:Sto}
theorem A2z (h:FI base M nI nR nV rows vals σ){t:Str}(ht:t.length≤100000)(hr:rows.length≤100000) :
    BF [.loc nI,.d (.str t)] σ = some (.d .none,σ.set nR (.list (((rows++[t]).map Jx).map .d))):=by
  have hz:stp.length+t.length≤sizeLine:=by rw [KV,sizeLine_eq];omega
  have hr':((rows.map Jx).map AV.d).length≤sizeLine:=by rw [List.length_map,List.length_map,sizeLine_eq];omega
  exact row_x h.hI (w:=stp) ((A2p (x:=stp)).trans (if_pos rfl)) (by rw [I9,if_pos hz]) h.hR hr' (by rw [List.map_append,List.map_append];rfl)
theorem VJ (h:FI base M nI nR nV rows vals σ)(hv:∀ t∈vals,t.length≤100000)(hr:rows.length+vals.length≤100000) :
    ∃ σ' nV',Bv [.loc nI] σ = some (.d .none,σ')∧FI base M nI nR nV' (rows++vals) [] σ':=by
  have hI:=h.hI;have hit:xIt (Ay [744] s!"values" (Aa 0)) [some (.loc nI),none] σ = some (GF (.loc nV),σ):=by
    have hV:=h.hV;refine e_b (a:=(.loc nV,σ)) (by erw [hI,MF _ _ _]) ?_;dsimp only;rw [Q3 hV];rfl
  obtain ⟨ρ',σ',e1,r',v',x,h1,h2,h3,h4,h5⟩:=QU (asg:=BN 1) (body:=TZ) ((vals.map sD).map .d)
    (fun r ρ σ=>∃ r' v' x,r=(v'.map sD).map .d∧ρ = [some (.loc nI),x]∧FI base M nI nR nV r' vals σ∧(r'++v'=rows++vals)∧∀ t∈v',t.length≤100000) hit
    (by
      rintro ρ σ i ⟨r',v',x,h1,h2,h3,h4,h5⟩;unfold GF;simp only [AU,h3.hV,Option.map_some])
    (by
      rintro a r ρ σ ⟨r',v',x,h1,rfl,h3,h4,h5⟩;cases v' with
      | nil=>cases h1
      | cons t v' =>
        obtain ⟨rfl,rfl⟩:=List.cons.inj h1;have hI:=h3.hI;have hlen:r'.length+(v'.length+1)=rows.length+vals.length:=by
          have:=congrArg List.length h4
          simpa only [List.length_append,List.length_cons] using this
        refine ⟨[some (.loc nI),some (.d (.str t))],σ,[some (.loc nI),some (.d (.str t))],_,rfl,?_,r'++[t],v',_,rfl,rfl,h3.addRow t,by rw [List.append_assoc];exact h4,fun t ht=>h5 t (.tail _ ht)⟩;have hrow:=A2z h3 (t:=t) (h5 t (.head _)) (by omega);exact Xw hI hrow)
    (by rw [List.length_map,List.length_map];omega) ⟨rows,vals,none,rfl,rfl,h,rfl,hv⟩
  have hv0:v'=[]:=by cases v' with
    | nil=>rfl
    | cons=>cases h1
  subst hv0;rw [List.append_nil] at h4;subst h4;subst h2;have hI':=h3.hI;refine ⟨_,σ'.length,?_,h3.newVals []⟩;have hI2:(σ'++[SO.list []])[nI]? = some (.inst 744 (Bh M nR nV)):=CL hI';exact ZI e1 hI2
end
noncomputable def GI (t:Str)(args:List Str):Str:=s!"(" ++ Txt.join s!" " (t::args)++s!")"
noncomputable abbrev FS:=List Str×List Str
noncomputable def AZ (st:FS)(p:TC):FS:=match p.2 with
  | none=>(st.1++st.2++[p.1],[])
  | some (c,q)=>if st.2.length < c then (st.1++st.2++[p.1],[]) else
      if q=1 then (st.1,st.2.take (st.2.length - c)++[GI p.1 (st.2.drop (st.2.length - c))])
      else (st.1++st.2.take (st.2.length - c)++[GI p.1 (st.2.drop (st.2.length - c))],[])
noncomputable def wsz (l:List Str):Nat:=(l.map fun s=>s.length+1).sum
theorem Ee (a b:List Str):wsz (a++b)=wsz a+wsz b:=by unfold wsz;rw [List.map_append,List.sum_append]
theorem CQ (a:Str)(b:List Str):wsz (a::b)=a.length+1+wsz b:=rfl
theorem UU {l:List Str}{t:Str}(h:t∈l):t.length+1≤wsz l:=by
  induction l with
  | nil=>cases h
  | cons a l ih =>
    rw [CQ];rcases List.mem_cons.mp h with rfl | h
    · omega
    · have:=ih h;omega
theorem DI (l:List Str):l.length≤wsz l:=by
  induction l with
  | nil=>exact Nat.le_refl _
  | cons a l ih=>rw [CQ,List.length_cons];omega
theorem e32:s!" " = spc:=by decide +kernel
theorem e40:s!"(" = opn:=by decide +kernel
theorem e41:s!")" = Do:=by decide +kernel
theorem MK:∀ (t:Str)(l:List Str),(Str.join spc (t::l)).length+1=wsz (t::l)
  | t,[]=>rfl
  | t,u::l=>by
    show (t++spc++Str.join spc (u::l)).length+1=_;rw [BA,BA,CQ,← MK u l];show t.length+1 + _+1=_;omega
theorem NU (t:Str)(l:List Str):(GI t l).length=t.length+wsz l+2:=by
  unfold GI;rw [BA,BA,e32,e40,e41,Iy];have:=MK t l;rw [CQ] at this;show 1 + _+1=_;omega
theorem Ib (l:List Str)(n:Nat):wsz (l.take n)+wsz (l.drop n)=wsz l:=by rw [← Ee,List.take_append_drop]
set_option tactic.hygienic true in
theorem Nz (st:FS)(p:TC)(h:p.1.length≤60):wsz (AZ st p).1+wsz (AZ st p).2≤wsz st.1+wsz st.2+63:=by
  unfold AZ;split
  · rw [Ee,Ee,CQ];show _ + _+(_+(0:Nat))+(0:Nat)≤_;omega
  · split
    · rw [Ee,Ee,CQ];show _ + _+(_+(0:Nat))+(0:Nat)≤_;omega
    · rename_i c q _ _
      have:=Ib st.2 (st.2.length - c);split
      · show wsz st.1+wsz (_++_)≤_
        rw [Ee,CQ,NU];show _+(_+(_+(0:Nat)))≤_;omega
      · show wsz (_++_)+(0:Nat)≤_
        rw [Ee,Ee,CQ,NU];show _ + _+(_+(0:Nat))+0≤_;omega
theorem XW {c q:Int}{σ:Sto}:AE (.d (.tup [.int c,.int q])) (.d (.int 0)) σ = some (.d (.int c),σ):=rfl
theorem Ut {c q:Int}{σ:Sto}:AE (.d (.tup [.int c,.int q])) (.d (.int 1)) σ = some (.d (.int q),σ):=rfl
theorem SP {α:Type}(l:List α)(n:Nat)(h:n≤l.length):Gv l (some (n:Int)) none=l.drop n:=by
  unfold Gv;have h1:kms_lo (some (n:Int)) l.length=n:=by
    unfold kms_lo;show (if ((n:Int) < 0) then _ else _)=_;rw [if_neg (by omega)];simp;omega
  rw [h1];show (l.drop n).take (l.length - n)=_;rw [List.take_of_length_le (by rw [List.length_drop];omega)]
theorem YZ {α:Type}(l:List α)(n:Nat)(h:n≤l.length):Gv l none (some (n:Int))=l.take n:=by
  unfold Gv;have h1:kms_hi (some (n:Int)) l.length=n:=by
    unfold kms_hi;show (if ((n:Int) < 0) then _ else _)=_;rw [if_neg (by omega)];simp;omega
  rw [h1];rfl
theorem Z1 {σ:Sto}{v:Nat}{l:List Str}(n:Nat)(hv:σ[v]? = some (.list ((l.map sD).map .d)))(h:n≤l.length)(hl:l.length≤100000):Ie true (.loc v) (.d (.int (n:Int))) (.d .none) σ = some (.d (.lst ((l.drop n).map sD)),σ):=by
  have hz:((l.map sD).map AV.d).length≤sizeLine:=by rw [sizeLine_eq,List.length_map,List.length_map];omega
  show (Option.bind (AU σ (.loc v)) fun l=>if l.length≤sizeLine then SG true l (some (n:Int)) none σ else none)=_;simp only [AU,hv,Option.bind_some,if_pos hz,SG];rw [SP _ n (by rw [List.length_map,List.length_map];exact h),← List.map_drop,← List.map_drop,C0];rfl
theorem A43 {σ:Sto}{v:Nat}{l:List Str}(n:Nat)(hv:σ[v]? = some (.list ((l.map sD).map .d)))(h:n≤l.length)(hl:l.length≤100000):Ie false (.loc v) (.d .none) (.d (.int (n:Int))) σ = some (.loc σ.length,σ ++ [.list (((l.take n).map sD).map .d)]):=by
  have hz:((l.map sD).map AV.d).length≤sizeLine:=by rw [sizeLine_eq,List.length_map,List.length_map];omega
  show (Option.bind (AU σ (.loc v)) fun l=>if l.length≤sizeLine then SG false l none (some (n:Int)) σ else none)=_;simp only [AU,hv,Option.bind_some,if_pos hz,SG];rw [YZ _ n (by rw [List.length_map,List.length_map];exact h),← List.map_take,← List.map_take]
theorem U8 (t:Str)(l:List Str)(h:wsz (t::l)≤100000):JoinOk s!" " (t::l)=true:=by
  have h1:((t::l).map (·.length)).sum+(t::l).length * 1=wsz (t::l):=by
    generalize t::l=u
    induction u with
    | nil=>rfl
    | cons a u ih=>rw [CQ,List.map_cons,List.sum_cons,List.length_cons];omega
  unfold JoinOk;rw [StrLaws.joinTotal];have h2:s!" ".length=1:=by decide +kernel
  rw [h2,h1];unfold Builtin.Str.tooLong;rw [decide_eq_false (by rw [sizeLine_eq];omega)];rfl
noncomputable def Mb:XT:=DM (xTr (Ai (AF .Is) (Aa 3) (xD .none))) (DM (xTr (Ai (AF .Gt) (Ai AE (Aa 3) (xD (.int 0))) (Av (A8 (Ay [744] s!"values" (Aa 0)) Af) BW))) E1)
noncomputable def NN:XS:=AO (xTr (Ai (AF .Eq) (Ai AE (Aa 3) (xD (.int 1))) (xD (.int 1)))) (Al (xSt (xMt (CR Hx) (Ay [744] s!"values" (Aa 0)) (A8 (Aa 5) Af))) Am) (Al (xSt (xMt (Bz s!"flush" (mC 744 Bv mN)) (Aa 0) Af)) (Al (xSt (xMt (Bz s!"row" (mC 744 BF mN)) (Aa 0) (A8 (Aa 5) Af))) Am))
section
variable {M op cd x4:D} {nI nR nV k k2:Nat}{t u w j:Str}{σ σ₁ σ₂ σ':Sto} {y4 y5:Option AV}{n m c q:Int}{l l':List AV}{L:List D}{ρ:Lo}
noncomputable abbrev sgR (nI:Nat) (op cd:D) (t:Str) (y4 y5:Option AV):Lo:=[some (.loc nI),some (.d op),some (.d (.str t)),some (.d cd),y4,y5]
theorem nv7 {v:AV}(h:Fy v=true):(([744]:List Addr).contains 744 && Fy v)=true:=by rw [h];rfl
theorem Oi:C8=By 2 4 (Al (DJ [2,3] (A8 (Av (A8 (Ay [744] s!"told" (Aa 0)) (A8 (Aa 1) Af)) B5) (A8 (Av (A8 (Ay [744] s!"module" (Aa 0)) (A8 (Aa 1) Af)) C9) Af))) (Al (AO Mb (Al (xSt (xMt (Bz s!"flush" (mC 744 Bv mN)) (Aa 0) Af)) (Al (xSt (xMt (Bz s!"row" (mC 744 BF mN)) (Aa 0) (A8 (Aa 2) Af))) (Al (B8 (xD .none)) Am))) Am) (Al (Bm 4 (Ai J2 (Av (A8 (Ay [744] s!"values" (Aa 0)) Af) BW) (Ai AE (Aa 3) (xD (.int 0))))) (Al (Bm 5 (Ai AH (Ai AH (xD (.str s!"(")) (xMt (Hp Di) (xD (.str s!" ")) (A8 (Ai AH (AJ (A8 (Aa 2) Af)) (xSl true (Ay [744] s!"values" (Aa 0)) (Aa 4) (xD .none))) Af))) (xD (.str s!")")))) (Al (BL [744] s!"values" (xSl false (Ay [744] s!"values" (Aa 0)) (xD .none) (Aa 4)) (Aa 0)) (Al NN Am)))))):=rfl
theorem A4j:Mb (sgR nI op .none t y4 y5) σ = some (true,σ):=by
  unfold Mb;erw []
theorem A2D {b:Bool}(hI:σ[nI]? = some (.inst 744 (Bh M nR nV)))(ln:BW [.loc nV] σ = some (.d (.int n),σ))(hd:decide (n < c)=b):Mb (sgR nI op (.tup [.int c,.int q]) t y4 y5) σ = some (b,σ):=by
  unfold Mb;have g:AF .Gt (.d (.int c)) (.d (.int n)) σ = some (.d (.bool b),σ):=by rw [p_gt,hd]
  cases b <;> erw [g,ln,hI,MF _ _ _]
theorem Ws (hM:Fy (.d M)=true)(hI:σ[nI]? = some (.inst 744 (Bh M nR nV)))(hi:∀ σ,B5 [.d EC,.d op] σ = some (.d (.str t),σ))(hc:∀ σ,C9 [.d M,.d op] σ = some (.d cd,σ))
    (hco:Mb (sgR nI op cd t none none) σ = some (true,σ)) (e1:Bv [.loc nI] σ = some (.d .none,σ₁)) (hI1:σ₁[nI]? = some (.inst 744 (Bh M nR k))) (e3:BF [.loc nI,.d (.str t)] σ₁ = some (.d .none,σ')) :
    C8 [.loc nI,.d op] σ = some (.d .none,σ'):=by
  rw [Oi];apply K8
  · rfl
  · erw [hi _,hc _,e1,e3,hI,hI1,A1t _ _ _,VI _ _ _,TY _ _ _,A1q _ _ _,nv7 hM,← hco,← ⟨(by decide:(2:Nat)≤sizeLine),rfl⟩]
  · rfl
theorem Wt (hM:Fy (.d M)=true)(hI:σ[nI]? = some (.inst 744 (Bh M nR nV)))(hi:∀ σ,B5 [.d EC,.d op] σ = some (.d (.str t),σ))(hc:∀ σ,C9 [.d M,.d op] σ = some (.d (.tup [.int c,.int q]),σ))
    (hco:Mb (sgR nI op (.tup [.int c,.int q]) t none none) σ = some (false,σ))(ln:BW [.loc nV] σ = some (.d (.int n),σ))(hm:n - c=m) (s1:Ie true (.loc nV) (.d (.int m)) (.d .none) σ = some (.d (.lst L),σ))
    (ad:AH (.d (.lst [.str t])) (.d (.lst L)) σ = some (.loc k,σ₁))(jn:Di [.d (.str s!" "),.loc k] σ₁ = some (.d (.str j),σ₁)) (a1:AH (.d (.str s!"(")) (.d (.str j)) σ₁ = some (.d (.str u),σ₁)) (a2:AH (.d (.str u)) (.d (.str s!")")) σ₁ = some (.d (.str w),σ₁))
    (hI1:σ₁[nI]? = some (.inst 744 (Bh M nR nV))) (s2:Ie false (.loc nV) (.d .none) (.d (.int m)) σ₁ = some (.loc k2,σ₂)) (hI2:σ₂[nI]? = some (.inst 744 (Bh M nR nV)))
    (K:NN (sgR nI op (.tup [.int c,.int q]) t (some (.d (.int m))) (some (.d (.str w)))) (σ₂.set nI (.inst 744 (Bh M nR k2)))=some (.next,ρ,σ')):C8 [.loc nI,.d op] σ = some (.d .none,σ'):=by
  have sb:J2 (.d (.int n)) (.d (.int c)) σ = some (.d (.int m),σ):=by rw [A2r,hm]
  rw [Oi];apply K8
  · rfl
  · erw [hi _,hc _,ln,sb,s1,ad,jn,a1,a2,s2,hI,hI1,hI2,A1t _ _ _,VI _ _ _,MF _ _ _,A4R _ _ _ _,nv7 hM,XW,← hco,← K,← ⟨(by decide:(2:Nat)≤sizeLine),rfl⟩,← (by decide:(1:Nat)≤sizeLine),← (by decide:(6:Nat) < 1000)]
  · rfl
theorem A2E (hI:σ[nI]? = some (.inst 744 (Bh M nR nV)))(hV:σ[nV]? = some (.list l))(hl:l.length≤sizeLine)(hm:l++[.d (.str w)]=l'):NN (sgR nI op (.tup [.int c,.int 1]) t y4 (some (.d (.str w)))) σ = some (.next,sgR nI op (.tup [.int c,.int 1]) t y4 (some (.d (.str w))),σ.set nV (.list l')):=by
  have g:AF .Eq (.d (.int 1)) (.d (.int 1)) σ = some (.d (.bool true),σ):=rfl;unfold NN;erw [g,hI,hV,hl,hm,MF _ _ _,Ut]
theorem A2F (hd:decide (q=1)=false)(hI:σ[nI]? = some (.inst 744 (Bh M nR nV))) (e1:Bv [.loc nI] σ = some (.d .none,σ₁)) (hI1:σ₁[nI]? = some (.inst 744 (Bh M nR k))) (e3:BF [.loc nI,.d (.str w)] σ₁ = some (.d .none,σ')) :
    NN (sgR nI op (.tup [.int c,.int q]) t y4 (some (.d (.str w)))) σ = some (.next,sgR nI op (.tup [.int c,.int q]) t y4 (some (.d (.str w))),σ'):=by
  have g:AF .Eq (.d (.int q)) (.d (.int 1)) σ = some (.d (.bool false),σ):=by rw [A2o,hd]
  unfold NN;erw [g,hI,hI1,e1,e3,TY _ _ _,A1q _ _ _,Ut]
end
section
variable {base:Sto}{M:D}{nI nR nV:Nat}{rows vals:List Str}{σ:Sto}
theorem Xs {u:Str}(h:FI base M nI nR nV rows vals σ)(hz:wsz rows+wsz vals≤10000)(hu:u.length≤20000):∃ σ' nV' σ₁,Bv [.loc nI] σ = some (.d .none,σ₁)∧σ₁[nI]? = some (.inst 744 (Bh M nR nV'))∧BF [.loc nI,.d (.str u)] σ₁ = some (.d .none,σ')∧FI base M nI nR nV' (rows++vals++[u]) [] σ':=by
  have hvl:=DI vals;have hrl:=DI rows;obtain ⟨σ₁,nV',e1,h1⟩:=VJ h (fun t ht=>by have:=UU ht;omega) (by omega);exact ⟨_,nV',σ₁,e1,h1.hI,A2z h1 (t:=u) (by omega) (by rw [List.length_append];omega),h1.addRow u⟩
theorem Yx {t:Str}{l:List Str}(h:l.length≤10000):AH (.d (.lst [.str t])) (.d (.lst (l.map sD))) σ = some (.loc σ.length,σ ++ [SO.list ([AV.d (.str t)]++(l.map sD).map AV.d)]):=by
  rw [YX,if_pos (by simp only [sizeLine_eq,List.length_map];show 1 + _≤_;omega)];rfl
theorem VZ {t:Str}{l:List Str}(h:wsz (t::l)≤100000):Di [.d (.str s!" "),.loc σ.length] (σ ++ [SO.list ([AV.d (.str t)]++(l.map sD).map AV.d)])=some (.d (.str (Txt.join s!" " (t::l))),σ ++ [SO.list ([AV.d (.str t)]++(l.map sD).map AV.d)]):=by
  have e:[AV.d (.str t)]++(l.map sD).map AV.d=((t::l).map fun x=>AV.d (.str x)):=by rw [List.map_cons,List.map_map];rfl
  show ((AU _ (.loc σ.length)).bind Ga).bind _=_;rw [Q3 Dp,e,Option.bind_some,Iw,Option.bind_some,if_pos (U8 t l h)]
theorem OX {t:Str}{l:List Str}(h:wsz (t::l)≤100000):(Txt.join s!" " (t::l)).length≤100000:=by
  have:=MK t l;rw [e32,Iy];omega
theorem A0V {u:Str}(h:u.length≤1000000):AH (.d (.str s!"(")) (.d (.str u)) σ = some (.d (.str (s!"(" ++ u)),σ):=by
  rw [I9,if_pos];show 1+u.length≤_;rw [sizeLine_eq];omega
theorem A0W {u:Str}(h:u.length≤1000000):AH (.d (.str u)) (.d (.str s!")")) σ = some (.d (.str (u++s!")")),σ):=by
  rw [I9,if_pos];show u.length+1≤_;rw [sizeLine_eq];omega
theorem A0o {a b:Int}{ops:List D}{op:D}{p:TC}(ho:UZ a b ops op p.1 p.2)(h:FI base (Ce a b ops) nI nR nV rows vals σ)(hz:wsz rows+wsz vals≤10000) :
    ∃ σ' nV',C8 [.loc nI,.d op] σ = some (.d .none,σ')∧FI base (Ce a b ops) nI nR nV' (AZ (rows,vals) p).1 (AZ (rows,vals) p).2 σ':=by
  obtain (⟨t,cn⟩):=p;have ht:t.length≤60:=Hd ho.gd;have hvl:=DI vals;have hrl:=DI rows;have hlz:((vals.map sD).map AV.d).length≤sizeLine:=by rw [sizeLine_eq,List.length_map,List.length_map];omega
  have ln:=e_len h.hV hlz;rw [List.length_map,List.length_map] at ln;cases cn with
  | none =>
    obtain ⟨σ',nV',σ₁,e1,e2,e3,h'⟩:=Xs h hz (u:=t) (by omega);exact ⟨σ',nV',Ws rfl h.hI ho.it ho.co A4j e1 e2 e3,h'⟩
  | some cq =>
    obtain (⟨c,q⟩):=cq;obtain ⟨hc10,hq10⟩:=ho.sm c q rfl
    by_cases hlt:vals.length < c
    · obtain ⟨σ',nV',σ₁,e1,e2,e3,h'⟩:=Xs h hz (u:=t) (by omega)
      have hf:AZ (rows,vals) (t,some (c,q))=(rows++vals++[t],[]):=by
        unfold AZ;simp only [if_pos hlt]
      rw [hf];exact ⟨σ',nV',Ws rfl h.hI ho.it ho.co (A2D h.hI ln (decide_eq_true (by omega))) e1 e2 e3,h'⟩
    · have hn:vals.length - c≤vals.length:=Nat.sub_le _ _
      have hv1:vals.length≤100000:=by omega
      have hsub:((vals.length:Nat):Int) - (c:Int)=((vals.length - c:Nat):Int):=by omega
      have hwz:=Ib vals (vals.length - c);have H1:=h.app (SO.list ([AV.d (.str t)]++((vals.drop (vals.length - c)).map sD).map AV.d));have H2:=H1.newVals (vals.take (vals.length - c));have hwl:(GI t (vals.drop (vals.length - c))).length≤20000:=by rw [NU];omega
      have hw:wsz (t::vals.drop (vals.length - c))≤100000:=by rw [CQ];omega
      have hwr:(s!"(" ++ Txt.join s!" " (t::vals.drop (vals.length - c))).length≤1000000:=by have:=OX hw;rw [BA];show 1 + _≤_;omega
      by_cases hq:q=1
      · subst hq
        have hf:AZ (rows,vals) (t,some (c,1))=(rows,vals.take (vals.length - c)++[GI t (vals.drop (vals.length - c))]):=by
          unfold AZ;simp only [if_neg hlt,if_true]
        rw [hf];exact ⟨_,_,Wt rfl h.hI ho.it ho.co (A2D h.hI ln (decide_eq_false (by omega))) ln hsub (Z1 (vals.length - c) h.hV hn hv1) (Yx (by rw [List.length_drop];omega)) (VZ hw) (A0V (Nat.le_trans (OX hw) (by decide))) (A0W hwr) H1.hI (A43 (vals.length - c) H1.hV hn hv1) (CL H1.hI) (A2E H2.hI H2.hV (by rw [sizeLine_eq,List.length_map,List.length_map,List.length_take];omega) (by rw [List.map_append,List.map_append];rfl)),H2.setVals _⟩
      · have hf:AZ (rows,vals) (t,some (c,q))=(rows++vals.take (vals.length - c)++[GI t (vals.drop (vals.length - c))],[]):=by
          unfold AZ;simp only [if_neg hlt,if_neg hq]
        rw [hf];obtain ⟨σ',nV',σ₁,e1,e2,e3,h'⟩:=Xs H2 (by omega) hwl;exact ⟨σ',nV',Wt rfl h.hI ho.it ho.co (A2D h.hI ln (decide_eq_false (by omega))) ln hsub (Z1 (vals.length - c) h.hV hn hv1) (Yx (by rw [List.length_drop];omega)) (VZ hw) (A0V (Nat.le_trans (OX hw) (by decide))) (A0W hwr) H1.hI (A43 (vals.length - c) H1.hV hn hv1) (CL H1.hI) (A2F (decide_eq_false (by omega)) H2.hI e1 e2 e3),h'⟩
end
noncomputable def YJ:XS:=(Al (Bm 3 (Ai AE (Aa 2) (xD (.int 0)))) (Al (AO (xTr (Ai (AF .In) (Aa 3) (B2 (A8 (xD Ha) (A8 (xD IL) (A8 (xD PO) Af)))))) (Al Fp Am) (Al (AO (xTr (Ai (AF .Eq) (Aa 3) (xD FL))) (Al Fp Am) (Al (AO (xTr (Ai (AF .Eq) (Aa 3) (xD M0))) (Al Fp Am) (Al (xSt (xMt (Bz s!"single" (mC 744 C8 mN)) (Aa 0) (A8 (Aa 2) Af))) Am)) Am)) Am)) Am))
section
variable {M op L:D}{X:AV}{nI nR nV k:Nat}{σ σ₁ σ₂ σ':Sto} {x2 x3:Option AV}{c:Int}
theorem ZJ (hc:∀ σ,AE (.d op) (.d (.int 0)) σ = some (.d (.int c),σ)) (n2:c≠2) (n3:c≠3) (n4:c≠4) (n5:c≠5) (n11:c≠11)(hI:σ[nI]? = some (.inst 744 (Bh M nR nV)))(e:C8 [.loc nI,.d op] σ = some (.d .none,σ')) :
    YJ [some (.loc nI),some X,some (.d op),x3] σ = some (.next,[some (.loc nI),some X,some (.d op),some (.d (.int c))],σ'):=by
  have g5:AF .Eq (.d (.int c)) (.d (.int 5)) σ = some (.d (.bool false),σ):=by rw [A2o,decide_eq_false n5]
  have g11:AF .Eq (.d (.int c)) (.d (.int 11)) σ = some (.d (.bool false),σ):=by rw [A2o,decide_eq_false n11]
  unfold YJ;erw [hc _,hI,e,A1s _ _ _,← in3 n2 n3 n4,← g5,← g11,← (by decide:(3:Nat)≤sizeLine)]
theorem A1y (e1:DL (xIt (xSl true (Aa 1) (xD .none) (ED (xD (.int 1))))) (BN 2) YJ [some (.loc nI),some X,none,none] σ = some (.next,[some (.loc nI),some X,x2,x3],σ'))(hI:σ'[nI]? = some (.inst 744 (Bh M nR nV)))
    (e2:Bv [.loc nI] σ'=some (.d .none,σ₂)) (hI2:σ₂[nI]? = some (.inst 744 (Bh M nR k))) (hfz:frz (.loc nR) σ₂ = some (L,σ₁)):Ct [.loc nI,X] σ = some (.d L,σ₁):=by
  show By 2 2 EE _ _=_;unfold EE;apply K8
  · rfl
  · erw [e2,hI,hI2,hfz,TY _ _ _,A1r _ _ _,← e1]
  · rfl
end
section
variable {base:Sto}{M:D}{nI nR nV:Nat}{rows vals:List Str}{σ:Sto}
theorem A1B {a b:Int}{ops:List D}{X:AV}{l:List D}{tcs:List TC}(H:Ops a b ops l tcs):∀ {st:FS} {x2 x3:Option AV} {nV:Nat} {σ:Sto},FI base (Ce a b ops) nI nR nV st.1 st.2 σ→wsz st.1+wsz st.2+63 * l.length≤9000 →
    ∃ x2' x3' nV' σ',Kr (BN 2) YJ (l.map .d) [some (.loc nI),some X,x2,x3] σ = some (.next,[some (.loc nI),some X,x2',x3'],σ')∧FI base (Ce a b ops) nI nR nV' (tcs.foldl AZ st).1 (tcs.foldl AZ st).2 σ'∧wsz (tcs.foldl AZ st).1+wsz (tcs.foldl AZ st).2≤9000:=by
  induction H with
  | nil=>exact fun {_ x2 x3 nV σ} h hz=>⟨x2,x3,nV,σ,rfl,h,hz⟩
  | cons ho hr ih =>
    intro st x2 x3 nV σ h hz;rw [List.length_cons] at hz;obtain ⟨c,hc,n2,n3,n4,n5,n11⟩:=YE ho.fm;obtain ⟨σ₁,nV₁,e,h₁⟩:=A0o ho h (by omega);have hw:=Nz st _ (Hd ho.gd);obtain (⟨x2',x3',nV',σ',e',r⟩):=ih h₁ (by omega);exact ⟨x2',x3',nV',σ',YI (ZJ hc n2 n3 n4 n5 n11 h.hI e) e',r⟩
theorem A3X {a b:Int}{ops:List D}{l:List D}{tcs:List TC}(H:Ops a b ops l tcs)(hl:l.length≤100)(h:FI base (Ce a b ops) nI nR nV [] [] σ) :
    ∃ σ',Ct [.loc nI,.d (.lst (l++[ti [11]]))] σ = some (.d (.lst (((tcs.foldl AZ ([],[])).1++(tcs.foldl AZ ([],[])).2).map Jx)),σ')∧∀ m,m < nI→σ'[m]? = base[m]?:=by
  have hsl:=Qa l (ti [11]) σ (by omega);obtain ⟨x2,x3,nV',σ',e1,h5,hz⟩:=A1B (X:=.d (.lst (l++[ti [11]]))) (x2:=none) (x3:=none) H (st:=([],[])) h (by show 0+0+63 * l.length≤_;omega);have e0:=(MG (YM hsl) (Md l) (by rw [List.length_map];omega)).trans e1;generalize tcs.foldl AZ ([],[])=st at *;have a1:=DI st.1;have a2:=DI st.2;obtain ⟨σ₂,nV₂,e2,h8⟩:=VJ h5 (fun t ht=>by have:=UU ht;omega) (by omega);have hR2:=h8.hR;have hfz:frz (.loc nR) σ₂ = some (.lst ((st.1++st.2).map Jx),σ₂.set nR .dead):=by
    unfold frz;simp only [hR2,C0,Option.map_some]
  exact ⟨σ₂.set nR .dead,A1y e0 h5.hI e2 h8.hI hfz,fun m hm=>by rw [AW (Nat.ne_of_gt (Nat.lt_trans hm h8.l1))];exact h8.bs m hm⟩
end
noncomputable def prD (a b:Int)(ops:List D)(f:Bool):D:=.obj 864 [(s!"module",Ce a b ops),(s!"names",.none),(s!"is_folded",.bool f),(s!"func_ids",.lst [eS,eS,eS,eS]),(s!"plain_told",Z8 [eS,eS,eS,eS] [])]
noncomputable abbrev fn0 (ops:List D):D:=fnD 0 [-1,-2] (ops++[ti [11]])
noncomputable abbrev fn1 (b:Int):D:=fnD b [] [ti [11]]
noncomputable abbrev fn2:D:=fnD 9 [] [ti [11]]
section
variable (a b:Int)(ops:List D)(f:Bool)(σ:Sto)
theorem VS:C2 [.d (Ce a b ops),.d (.int 0)] σ = some (.d (.int 1),σ):=Br (by kernel_rfl) σ
theorem Uc:Cq [.d (prD a b ops f),.d (.int 1),.d (.int 2)] σ = some (.d (.lst [eS,eS]),σ):=Br (by kernel_rfl) σ
theorem XJ:Cj [.d (prD a b ops f),.d (fn0 ops)] σ = some (.d (.tup [.tup [],.tup []]),σ):=Br (by kernel_rfl) σ
noncomputable abbrev hd0:Str:=s!"(func (type 0) (local i32 i64)"
theorem A31:Cp [.d (prD a b ops f),.d (.int 1),.d (fn0 ops),.d (.lst [eS,eS])] σ = some (.d (.str hd0),σ):=Br (by kernel_rfl) σ
theorem Ua:Dd [.d (prD a b ops f)] σ = some (.d (.lst [.str s!"(type (func))",.str s!"(type (func (param i32) (result i32)))",.str s!"(type (func (param i32 i32)))",.str s!"(type (func (param i32 i64 i32) (result i32 i64)))"]),σ):=Br (by kernel_rfl) σ
theorem A2J:CU [.d (prD a b ops f)] σ = some (.d (.lst []),σ):=Br (by kernel_rfl) σ
theorem ZQ:CH [.d (prD a b ops f)] σ = some (.d (.lst []),σ):=Br (by kernel_rfl) σ
theorem ZF:CG [.d (prD a b ops f)] σ = some (.d (.lst []),σ):=Br (by kernel_rfl) σ
theorem A38:Fv [.d (prD a b ops f)] σ = some (.d (.str s!"(module"),σ):=Br (by kernel_rfl) σ
theorem A1G:AS [.d (prD a b ops true),.d (.int 2),.d fn2] σ = some (.d (.lst [.str s!"(func (type 9)",.str s!")"]),σ):=Br (by kernel_rfl) σ
theorem ZN:AS [.d (prD a b ops false),.d (.int 2),.d fn2] σ = some (.d (.lst [.str s!"(func (type 9)",.str s!")"]),σ):=Br (by kernel_rfl) σ
noncomputable def Q9 (a:Int):Str:=if a=0 then Str.ofString "(i\u006dport \"h\" \"f\" (func (type 0)))" else if a=1 then Str.ofString "(i\u006dport \"h\" \"f\" (func (type 1)))" else if a=2 then Str.ofString "(i\u006dport \"h\" \"f\" (func (type 2)))" else Str.ofString "(i\u006dport \"h\" \"f\" (func (type 3)))"
noncomputable def hdL (b:Int):Str:=if b=0 then s!"(func (type 0)" else if b=1 then s!"(func (type 1)" else if b=2 then s!"(func (type 2)" else s!"(func (type 3)"
theorem A4S (x:Int):x.fmod 4=0∨x.fmod 4=1∨x.fmod 4=2∨x.fmod 4=3:=by
  have h1:=Int.fmod_nonneg_of_pos x (b:=4) (by decide);have h2:=Int.fmod_lt_of_pos x (b:=4) (by decide);omega
theorem ZR (ha:a=0∨a=1∨a=2∨a=3):CI [.d (prD a b ops f)] σ = some (.d (.lst [.str (Q9 a)]),σ):=by
  rcases ha with rfl | rfl | rfl | rfl <;> exact Br (by kernel_rfl) σ
theorem A1F (hb:b=0∨b=1∨b=2∨b=3):AS [.d (prD a b ops f),.d (.int 1),.d (fn1 b)] σ = some (.d (.lst [.str (hdL b),.str s!")"]),σ):=by
  cases f <;> rcases hb with rfl | rfl | rfl | rfl <;> exact Br (by kernel_rfl) σ
theorem A7E {n:Nat}{σ:Sto}{A B:AV}(h:σ[n]? = some (.inst 622 [])):KJ [.loc n,A,B] σ = some (.d .none,(σ.set n (.inst 622 [(s!"func_ids",A)])).set n (.inst 622 [(s!"func_ids",A),(s!"local_ids",B)])):=by
  have h2:=Fg (o:=.inst 622 [(s!"func_ids",A)]) h;have p1:MP s!"func_ids" A []=[(s!"func_ids",A)]:=rfl;have p2:MP s!"local_ids" B [(s!"func_ids",A)]=[(s!"func_ids",A),(s!"local_ids",B)]:=by kernel_rfl
  show By 3 0 Gd _ _=_;apply K8
  · rfl
  · unfold Gd
    erw [h,h2,p1,p2,← (by decide:(0:Nat) < 1000),← (by decide:(1:Nat) < 1000)]
  · rfl
theorem A4t (ρ:Lo) (l1 l2:List D)(xs:XEs)(σ':Sto)(h:xs ρ σ = some ([.d (.lst l1),.d (.lst l2)],σ')):xFz (Av xs KI) ρ σ = some (.d (Z8 l1 l2),σ'++[.dead]):=by
  have s1:∀ o p:SO,(σ'++[o]).set σ'.length p=σ'++[p]:=by intro o p;simp
  have hx:=A7E (A:=.d (.lst l1)) (B:=.d (.lst l2)) (Dp (σ:=σ') (o:=.inst 622 []));rw [s1,s1] at hx;have hT:KI [.d (.lst l1),.d (.lst l2)] σ'=some (.loc σ'.length,σ'++[.inst 622 [(s!"func_ids",.d (.lst l1)),(s!"local_ids",.d (.lst l2))]]):=e_b hx rfl;refine e_Fz (Xo h hT) ?_;unfold frz;simp only [Dp,fsD,Option.map_some,s1]
end
set_option tactic.hygienic true in
theorem C3 {x y:XS}{ρ ρ':Lo}{σ σ':Sto}(h:x ρ σ = some (.next,ρ',σ')):Al x y ρ σ = y ρ' σ':=by
  unfold Al;rw [h];rfl
theorem Fe {n k:Nat}{x:XS}(ds:List D){d:D}(hn:ds.length=n)(h:∃ ρ' σ',x ((ds.map AV.d).map some++List.replicate k none) []=some (.ret (.d d),ρ',σ'))(σ:Sto):Bc (By n k x) (ds.map .d) σ = some (.d d,σ):=by
  obtain ⟨ρ',σ',h⟩:=h;unfold Bc By;rw [C0,Option.bind_some,if_pos (by rw [List.length_map];exact hn),h];rfl
theorem Xx {M:D}{x:SO}:KF [.d M,.d EC,.d (.int 1)] [.dead,x]=some (.loc 2,[.dead,x,.inst 744 (Bh M 3 4),.list [],.list []]):=by kernel_rfl
theorem A4K {T:List Addr}{n:Str}{C:Addr}{fs:List (Str×D)}{v:AV}(h:Ay T n (Aa 0) [some (.d (.obj C fs))] []=some (v,[])){x:XE}{ρ:Lo}{σ σ':Sto}(k:x ρ σ = some (.d (.obj C fs),σ')):Ay T n x ρ σ = some (v,σ'):=by
  have h':((fs.map fun p=>(p.1,AV.d p.2)).lookup n).bind (fun av=>if (T.contains C && Fy av)=true then some (av,([]:Sto)) else none)=some (v,[]):=h;refine oB h' fun av e2 e=>?_;obtain ⟨hc,e⟩:=Bq e;obtain ⟨rfl,_⟩:=Prod.mk.inj e;exact e_b k (e_b (a:=(C,fs.map fun p=>(p.1,AV.d p.2))) rfl (e_b e2 (if_pos hc)))
theorem A5P {rows:List Str}{σ':Sto}(h:σ'[1]? = some (.list (([D.str hd0]++rows.map Jx).map .d)))(hz:rows.length≤100000):AH (.loc 1) (.d (.lst [.str s!")"])) σ'=some (.loc σ'.length,σ'++[SO.list ((D.str hd0::(rows.map Jx++[D.str s!")"])).map AV.d)]):=by
  show (AU σ' (.loc 1)).bind _=_;rw [Q3 h,Option.bind_some];show (Option.bind (some _) _)=_;rw [Option.bind_some,if_pos]
  · simp
  · rw [sizeLine_eq];simp;omega
noncomputable def frB:XS:=(AO (xTr (Ay [864] s!"is_folded" (Aa 0))) (Al (xSt (xMt (CR Hq) (Aa 6) (A8 (xMt (Bz s!"fold" (mC 744 Ct mN)) (Av (A8 (Ay [864] s!"module" (Aa 0)) (A8 (Aa 5) (A8 (xD (.int 1)) Af))) KF) (A8 (Ay [220] s!"body" (Aa 2)) Af)) Af))) Am) (Al (xSt (xMt (CR Hq) (Aa 6) (A8 (Av (A8 (Aa 5) (A8 (Ay [220] s!"body" (Aa 2)) (A8 (xD (.int 1)) Af))) Gf) Af))) Am))
noncomputable def frT:XE:=(xFz (Av (A8 (Ay [864] s!"func_ids" (Aa 0)) (A8 (Aa 4) Af)) KI))
theorem ZO:C4=(Al (Bm 3 (Ai AH (xMt (Bz s!"imported" (mC 443 C2 mN)) (Ay [864] s!"module" (Aa 0)) (A8 (xD BU) Af)) (Aa 1))) (Al (Bm 4 (xMt (Bz s!"local_ids" (mC 864 Cq mN)) (Aa 0) (A8 (Aa 3) (A8 (Ai AH (Av (A8 (Ai AE (xMt (Bz s!"kind_of" (mC 864 Cj mN)) (Aa 0) (A8 (Aa 2) Af)) (xD (.int 0))) Af) BW) (Av (A8 (Ay [220] s!"locals" (Aa 2)) Af) BW)) Af)))) (Al (Bm 5 frT) (Al (Bm 6 (BX (A8 (xMt (Bz s!"head_text" (mC 864 Cp mN)) (Aa 0) (A8 (Aa 3) (A8 (Aa 2) (A8 (Aa 4) Af)))) Af))) (Al frB (Al (B8 (xFz (Ai AH (Aa 6) (AJ (A8 (xD (.str s!")")) Af))))) Am)))))):=rfl
section
variable {X F B:AV}{M L:D}{f:Bool}{l l':List AV}{rs:List D}{n:Nat} {σ σ1 σ2 σ6 σ7 σ8:Sto}
noncomputable abbrev frR (X F:AV):Lo:=[some X,some (.d (.int 0)),some F,some (.d (.int 1)),some (.d (.lst [eS,eS])),some (.d EC),some (.loc 1)]
theorem fr_no (hf:∀ {x:XE}{ρ:Lo}{σ σ':Sto},x ρ σ = some (X,σ')→Ay [864] s!"is_folded" x ρ σ = some (.d (.bool false),σ'))(hb:∀ {x:XE}{ρ:Lo}{σ σ':Sto},x ρ σ = some (F,σ')→Ay [220] s!"body" x ρ σ = some (B,σ'))(h:Gf [.d EC,B,.d (.int 1)] [.dead,.list l]=some (.d (.lst rs),[.dead,.list l]))(hz:l.length+(rs.map AV.d).length≤sizeLine)(e:l++rs.map .d=l') :
    frB (frR X F) [.dead,.list l]=some (.next,frR X F,[.dead,.list l']):=by
  unfold frB;erw [@hf,@hb,h,← Sx rfl rfl hz e]
theorem A6v (hf:∀ {x:XE}{ρ:Lo}{σ σ':Sto},x ρ σ = some (X,σ')→Ay [864] s!"is_folded" x ρ σ = some (.d (.bool true),σ'))(hm:∀ {x:XE}{ρ:Lo}{σ σ':Sto},x ρ σ = some (X,σ')→Ay [864] s!"module" x ρ σ = some (.d M,σ'))(hb:∀ {x:XE}{ρ:Lo}{σ σ':Sto},x ρ σ = some (F,σ')→Ay [220] s!"body" x ρ σ = some (B,σ'))(hF:KF [.d M,.d EC,.d (.int 1)] σ = some (.loc 2,σ1))(hu:Bz s!"fold" (mC 744 Ct mN) (.loc 2) σ1=some Ct) (h0:σ[1]? = some (.list l)) (e1:Ct [.loc 2,B] σ1=some (.d (.lst rs),σ2)) (h1:σ2[1]? = some (.list l))(hz:l.length+(rs.map AV.d).length≤sizeLine)(e:l++rs.map .d=l') :
    frB (frR X F) σ = some (.next,frR X F,σ2.set 1 (.list l')):=by
  unfold frB;erw [@hf,@hm,@hb,hF,hu,e1,h0,← Sx h1 rfl hz e]
theorem fr_x (hm:∀ {x:XE}{ρ:Lo}{σ σ':Sto},x ρ σ = some (X,σ')→Ay [864] s!"module" x ρ σ = some (.d M,σ'))(hl:∀ {x:XE}{ρ:Lo}{σ σ':Sto},x ρ σ = some (F,σ')→Ay [220] s!"locals" x ρ σ = some (.d (ti [-1,-2]),σ')) (u1:∀ (σ:Sto)(y:XC),Bz s!"imported" (mC 443 y mN) (.d M) σ = some y) (u2:∀ (σ:Sto)(y:XC),Bz s!"local_ids" (mC 864 y mN) (X) σ = some y) (u3:∀ (σ:Sto)(y:XC),Bz s!"kind_of" (mC 864 y mN) (X) σ = some y) (u4:∀ (σ:Sto)(y:XC),Bz s!"head_text" (mC 864 y mN) (X) σ = some y)
    (hi:∀ σ,C2 [.d M,.d (.int 0)] σ = some (.d (.int 1),σ))(hk:∀ σ,Cj [X,F] σ = some (.d (.tup [.tup [],.tup []]),σ))(hd:∀ σ,Cq [X,.d (.int 1),.d (.int 2)] σ = some (.d (.lst [eS,eS]),σ))
    (ht:frT [some X,some (.d (.int 0)),some F,some (.d (.int 1)),some (.d (.lst [eS,eS])),none,none] []=some (.d EC,[.dead]))(hh:∀ σ,Cp [X,.d (.int 1),F,.d (.lst [eS,eS])] σ = some (.d (.str hd0),σ))
    (K:frB (frR X F) [.dead,.list [.d (.str hd0)]]=some (.next,frR X F,σ6))(ha:AH (.loc 1) (.d (.lst [.str s!")"])) σ6=some (.loc n,σ7))(hz:frz (.loc n) σ7=some (L,σ8)) :
    C4 [some X,some (.d (.int 0)),some F,none,none,none,none] []=some (.ret (.d L),frR X F,σ8):=by
  have hL0:BW [.d (.tup [])] []=some (.d (.int 0),[]):=rfl;have hL2:BW [.d (ti [-1,-2])] []=some (.d (.int 2),[]):=rfl;have hg:AE (.d (.tup [.tup [],.tup []])) (.d (.int 0)) []=some (.d (.tup []),[]):=rfl;have hA:AH (.d (.int 1)) (.d (.int 0)) []=some (.d (.int 1),[]):=rfl;have hA2:AH (.d (.int 0)) (.d (.int 2)) []=some (.d (.int 2),[]):=rfl;have i0:C2 [.d M,.d BU] []=some (.d (.int 1),[]):=hi _;rw [ZO];erw [@hm,@hl,u1 _ _,u2 _ _,u3 _ _,u4 _ _,i0,hk _,hd _,hh _,hL0,hL2,hg,hA,hA2,ha,hz,← ht,← K,← (by decide:(1:Nat)≤sizeLine)]
end
theorem U2 {a b:Int}{ops:List D}{tcs:List TC}(H:Ops a b ops ops tcs)(hl:ops.length≤100)(f:Bool)(rows:List Str)(hr:rows=if f=true then (tcs.foldl AZ ([],[])).1++(tcs.foldl AZ ([],[])).2 else tcs.map (·.1))(hz:rows.length≤100000)(σ:Sto) :
    AS [.d (prD a b ops f),.d (.int 0),.d (fn0 ops)] σ = some (.d (.lst (.str hd0::(rows.map Jx++[.str s!")"]))),σ):=by
  refine Fe [prD a b ops f,.int 0,fn0 ops] rfl ?_ σ;have aX:∀ (n:Str) (v:AV),(Ay [864] n (Aa 0) [some (.d (prD a b ops f))] []=some (v,[]))→∀ {x:XE} {ρ:Lo} {σ σ':Sto},x ρ σ = some (.d (prD a b ops f),σ')→Ay [864] n x ρ σ = some (v,σ'):=fun n v h {_ _ _ _} k=>A4K h k;have aF:∀ (n:Str) (v:AV),(Ay [220] n (Aa 0) [some (.d (fn0 ops))] []=some (v,[]))→∀ {x:XE} {ρ:Lo} {σ σ':Sto},x ρ σ = some (.d (fn0 ops),σ')→Ay [220] n x ρ σ = some (v,σ'):=fun n v h {_ _ _ _} k=>A4K h k;have ht:frT [some (.d (prD a b ops f)),some (.d (.int 0)),some (.d (fn0 ops)),some (.d (.int 1)),some (.d (.lst [eS,eS])),none,none] []=some (.d EC,[.dead]):=A4t _ _ [eS,eS,eS,eS] [eS,eS] _ [] (IN (aX _ _ (by kernel_rfl) (HI rfl)) (IN (HI rfl) Q2));have fin:∀ {σ':Sto},frB (frR (.d (prD a b ops f)) (.d (fn0 ops))) [.dead,.list [.d (.str hd0)]]=some (.next,frR (.d (prD a b ops f)) (.d (fn0 ops)),σ')→σ'[1]? = some (.list (([D.str hd0]++rows.map Jx).map .d))→∃ ρ' σ',C4 [some (.d (prD a b ops f)),some (.d (.int 0)),some (.d (fn0 ops)),none,none,none,none] []=some (.ret (.d (.lst (.str hd0::(rows.map Jx++[.str s!")"])))),ρ',σ'):=fun K h =>
    ⟨_,_,fr_x (aX _ _ (by kernel_rfl)) (aF _ _ (by kernel_rfl)) (fun σ y=>by kernel_rfl) (fun σ y=>by kernel_rfl) (fun σ y=>by kernel_rfl) (fun σ y=>by kernel_rfl) (fun ξ=>VS a b ops _) (fun ξ=>XJ a b ops f _) (fun ξ=>Uc a b ops f _) ht (fun ξ=>A31 a b ops f _) K (A5P h hz) IP⟩
  have hlen:([AV.d (.str hd0)]:List AV).length+((rows.map Jx).map AV.d).length≤sizeLine:=by rw [sizeLine_eq,List.length_map,List.length_map];show 1 + _≤_;omega
  cases f
  · have hr':rows=tcs.map (·.1):=hr
    have hb:=Ty H hl [.dead,.list [.d (.str hd0)]];rw [show (tcs.map fun p=>Jx p.1)=rows.map Jx by rw [hr',List.map_map];rfl] at hb
    exact fin (fr_no (aX _ _ (by kernel_rfl)) (aF _ _ (by kernel_rfl)) hb hlen (by rw [List.map_append];rfl)) rfl
  · have hr':rows=(tcs.foldl AZ ([],[])).1++(tcs.foldl AZ ([],[])).2:=hr
    have FI0:FI [.dead,.list [.d (.str hd0)]] (Ce a b ops) 2 3 4 [] [] [.dead,.list [.d (.str hd0)],.inst 744 (Bh (Ce a b ops) 3 4),.list [],.list []]:=
      ⟨rfl,rfl,rfl,by decide,by decide,by decide,fun m hm=>match m,hm with
        | 0,_=>rfl
        | 1,_=>rfl⟩
    obtain ⟨σ',e1,e2⟩:=A3X H hl FI0;rw [← hr'] at e1;have h1:σ'[1]? = some (.list [.d (.str hd0)]):=e2 1 (by decide);exact fin (A6v (aX _ _ (by kernel_rfl)) (aX _ _ (by kernel_rfl)) (aF _ _ (by kernel_rfl)) (Xx (M:=Ce a b ops)) (e_mU rfl (A6p _ _ _) rfl) rfl e1 h1 hlen (by rw [List.map_append];rfl)) (Fg h1)
theorem YC {item:DK}{fr:Lo}{xe:XE}{f:AV→AV}{σ:Sto}{l:List AV}(hs:∀ i,item i σ = some (l[i]?))(h:∀ a∈l,xe (some a::fr) σ = some (f a,σ)):∀ (n i:Nat) (acc:List AV),l.length≤n+i→Gz item fr BD xe n i σ acc=some (acc++(l.drop i).map f,σ)
  | 0,i,acc,hn=>by
    have e:l[i]? = none:=List.getElem?_eq_none (by omega);have hd:l.drop i=[]:=by rw [DV,e]
    unfold Gz;rw [hs,e,hd];simp
  | n+1,i,acc,hn=>by
    unfold Gz;cases e:l[i]? with
    | none =>
      have hd:l.drop i=[]:=by rw [DV,e]
      rw [hs,e,hd];simp
    | some a =>
      have hd:l.drop i=a::l.drop (i+1):=by rw [DV,e]
      rw [hs,e,hd];dsimp only;show (BD (some a::fr) σ).bind _=_;unfold BD;rw [Option.bind_some];dsimp only;rw [h a (List.mem_of_getElem? e),Option.bind_some];have:=YC (fr:=fr) hs h n (i+1) (acc++[f a]) (by omega);unfold BD at this;dsimp only;rw [this];simp
theorem A6e {xi:XI}{fr:List Nat}{xe:XE}{ρ:Lo}{σ σ₁:Sto}{item:DK}{l:List AV}(f:AV→AV)(hi:xi ρ σ = some (item,σ₁))(hs:∀ i,item i σ₁ = some (l[i]?))(hl:l.length≤100000)(h:∀ a∈l,xe (some a::fr.map fun i=>(ρ[i]?).join) σ₁ = some (f a,σ₁)) :
    C7 xi fr BD xe ρ σ = some (.loc σ₁.length,σ₁ ++ [.list (l.map f)]):=by
  unfold C7;rw [hi,Option.bind_some];dsimp only;rw [YC hs h Oe 0 [] hl];rfl
noncomputable abbrev kL:List Str:=[s!"(type (func))",s!"(type (func (param i32) (result i32)))",s!"(type (func (param i32 i32)))",s!"(type (func (param i32 i64 i32) (result i32 i64)))"]
noncomputable abbrev cp:Str:=s!")"
noncomputable def HC (a b:Int)(rows:List Str):List Str:=(kL++[Q9 a])++(hd0::(rows.map (stp ++ ·)++[cp]))++[hdL b,cp]++[s!"(func (type 9)",cp]
noncomputable def Cc (a b:Int)(rows:List Str):List Str:=s!"(module" :: ((HC a b rows).map (stp ++ ·)++[cp])
noncomputable def E0 (a b:Int)(rows:List Str):Str:=Txt.join (Str.ofString "\n") (Cc a b rows)++Str.ofString "\n"
theorem A1N (a:Int):(Q9 a).length≤60:=by
  unfold Q9;split
  · decide +kernel
  · split
    · decide +kernel
    · split <;> decide +kernel
theorem A30 (a:Int):(hdL a).length≤60:=by
  unfold hdL;split
  · decide +kernel
  · split
    · decide +kernel
    · split <;> decide +kernel
theorem O6 (a b:Int)(rows:List Str)(h:∀ t∈rows,t.length≤20000):∀ t∈HC a b rows,t.length≤20002:=by
  intro t ht;unfold HC at ht;simp only [List.mem_append,List.mem_cons,List.mem_map,List.not_mem_nil,or_false,kL] at ht;have k0:∀ u:Str,u.length≤60→u.length≤20002:=fun u hu=>by omega
  rcases ht with (((((rfl | rfl | rfl | rfl) | rfl) | rfl | ⟨u,hu,rfl⟩ | rfl) | rfl | rfl) | rfl | rfl)
  · exact k0 _ (by decide +kernel)
  · exact k0 _ (by decide +kernel)
  · exact k0 _ (by decide +kernel)
  · exact k0 _ (by decide +kernel)
  · exact k0 _ (A1N a)
  · exact k0 _ (by decide +kernel)
  · rw [BA,KV];exact Nat.add_le_add_left (h u hu) 2
  · exact k0 _ (by decide +kernel)
  · exact k0 _ (A30 b)
  · exact k0 _ (by decide +kernel)
  · exact k0 _ (by decide +kernel)
  · exact k0 _ (by decide +kernel)
theorem Sm (a b:Int)(rows:List Str):(HC a b rows).length=rows.length+11:=by
  unfold HC kL;simp
theorem Og (a b:Int)(rows:List Str)(h:∀ t∈rows,t.length≤20000):∀ t∈Cc a b rows,t.length≤20004:=by
  intro t ht;unfold Cc at ht;simp only [List.mem_append,List.mem_cons,List.mem_map,List.not_mem_nil,or_false] at ht;rcases ht with rfl | ⟨u,hu,rfl⟩ | rfl
  · exact Nat.le_trans (m:=60) (by decide +kernel) (by decide)
  · rw [BA,KV];exact Nat.add_le_add_left (O6 a b rows h u hu) 2
  · exact Nat.le_trans (m:=60) (by decide +kernel) (by decide)
theorem ND (a b:Int)(rows:List Str):(Cc a b rows).length=rows.length+13:=by
  unfold Cc;simp [Sm]
theorem Uj:(Str.ofString "\n").length=1:=by decide +kernel
theorem A4Z:Str.ofString "\n" = ⟨#[10]⟩:=by decide +kernel
theorem WB (a b:Int)(rows:List Str)(h:∀ t∈rows,t.length≤20000)(hn:rows.length≤120):(Txt.join (Str.ofString "\n") (Cc a b rows)).length≤133 * 20004+133:=by
  rw [Iy];refine Nat.le_trans (StrLaws.join_length_le _ _) ?_;have h1:=StrLaws.sumLen_le (B:=20004) (Cc a b rows) (Og a b rows h);rw [ND] at h1;rw [Uj,ND];have h2:(rows.length+13) * 20004≤133 * 20004:=Nat.mul_le_mul_right _ (Nat.add_le_add_right hn 13);rw [Nat.mul_one];exact Nat.add_le_add (Nat.le_trans h1 h2) (Nat.add_le_add_right hn 13)
theorem A0t (a b:Int)(rows:List Str)(h:∀ t∈rows,t.length≤20000)(hn:rows.length≤120):(Txt.join (Str.ofString "\n") (Cc a b rows)).length+(Str.ofString "\n").length≤16777216:=by
  rw [Uj];exact Nat.le_trans (Nat.add_le_add_right (WB a b rows h hn) 1) (by decide)
theorem XK (a b:Int)(rows:List Str)(h:∀ t∈rows,t.length≤20000)(hn:rows.length≤120):JoinOk (Str.ofString "\n") (Cc a b rows)=true:=Sh 20004 (Og a b rows h) (by
    rw [ND,Uj];exact Nat.le_trans (Nat.add_le_add (Nat.mul_le_mul_right _ (Nat.add_le_add_right hn 13)) (Nat.mul_le_mul_right _ (Nat.add_le_add_right hn 13))) (by decide))
noncomputable def Z4:XS:=(Al (xSt (xMt (CR Hq) (Aa 1) (A8 (xMt (Bz s!"func_rows" (mC 864 AS mN)) (Aa 0) (A8 (Aa 2) (A8 (Aa 3) Af))) Af))) Am)
section
variable {X:AV}{K I:List D} {mk f0 f1 f2:D} {l0 L:List AV} {z2 z3:Option AV}{T T':Str} {σ5 σ6 σ7:Sto}
theorem Xq {asg:XA}{B:XS}{a:AV}{l:List AV}{ρ ρ₁ ρ':Lo}{σ σ₁ σ':Sto}{R:Option (Fl×Lo×Sto)} (h0:asg a ρ σ = some (ρ₁,σ₁))(h:B ρ₁ σ₁ = some (.next,ρ',σ'))(k:Kr asg B l ρ' σ'=R):Kr asg B (a::l) ρ σ = R:=by unfold Kr;exact e_b h0 (e_b h k)
theorem QM (u3:∀ (σ:Sto)(y:XC),Bz s!"func_rows" (mC 864 y mN) X σ = some y){i:Int}{fn:D}{rs:List D}{acc:List AV}(h:∀ σ,AS [X,.d (.int i),.d fn] σ = some (.d (.lst rs),σ))(hz:acc.length+(rs.map AV.d).length≤sizeLine) :
    Z4 [some X,some (.loc 0),some (.d (.int i)),some (.d fn)] [.list acc]=some (.next,[some X,some (.loc 0),some (.d (.int i)),some (.d fn)],[.list (acc++rs.map .d)]):=by
  unfold Z4;erw [u3 _ _,h _,← Sx rfl rfl hz rfl]
theorem A0v (u3:∀ (σ:Sto)(y:XC),Bz s!"func_rows" (mC 864 y mN) X σ = some y) {r0 r1 r2:List D}(hE:(T4 (Ay [443] s!"funcs" (Ay [864] s!"module" (Aa 0)))) [some X,some (.loc 0),none,none] [.list l0]=some (Of (.d (.lst [f0,f1,f2])),[.list l0]))
    (h0:∀ σ,AS [X,.d (.int 0),.d f0] σ = some (.d (.lst r0),σ)) (h1:∀ σ,AS [X,.d (.int 1),.d f1] σ = some (.d (.lst r1),σ)) (h2:∀ σ,AS [X,.d (.int 2),.d f2] σ = some (.d (.lst r2),σ))
    (e:l0++r0.map .d++r1.map .d++r2.map .d=L)(hL:L.length≤sizeLine) :
    DL (T4 (Ay [443] s!"funcs" (Ay [864] s!"module" (Aa 0)))) (MI [2,3]) Z4 [some X,some (.loc 0),none,none] [.list l0]=some (.next,[some X,some (.loc 0),some (.d (.int 2)),some (.d f2)],[.list L]):=by
  subst e;have g2:=hL;rw [List.length_append] at g2;have g1:=Nat.le_trans (Nat.le_add_right _ _) g2;rw [List.length_append] at g1;have g0:=Nat.le_trans (Nat.le_add_right _ _) g1;rw [List.length_append] at g0;exact (MG hE (A4m [f0,f1,f2]) (by simp)).trans (Xq rfl (QM u3 h0 g0) (Xq rfl (QM u3 h1 g1) (Xq rfl (QM u3 h2 g2) rfl)))
theorem Xp {n m:Nat}{σ:Sto}{l:List AV}(h:σ[n]? = some (.list l)) (h1:σ[m]? = some (.list [])) (h2:l.length≤sizeLine):Hq [.loc n,.loc m] σ = some (.d .none,σ.set n (.list l)):=Sx h (Q3 h1) (by show l.length+0≤_;exact h2) (List.append_nil _)
theorem A7C (u1:∀ (σ:Sto)(y:XC),Bz s!"kind_rows" (mC 864 y mN) X σ = some y) (u2:∀ (σ:Sto)(y:XC),Bz s!"import_rows" (mC 864 y mN) X σ = some y) (u4:∀ (σ:Sto)(y:XC),Bz s!"small_rows" (mC 864 y mN) X σ = some y) (u5:∀ (σ:Sto)(y:XC),Bz s!"global_rows" (mC 864 y mN) X σ = some y) (u6:∀ (σ:Sto)(y:XC),Bz s!"export_rows" (mC 864 y mN) X σ = some y) (u7:∀ (σ:Sto)(y:XC),Bz s!"mark" (mC 864 y mN) X σ = some y)
    (hk:∀ σ,Dd [X] σ = some (.d (.lst K),σ))(hi:∀ σ,CI [X] σ = some (.d (.lst I),σ)) (a0:AH (.d (.lst K)) (.d (.lst I)) []=some (.loc 0,[.list l0]))
    (s2:DL (T4 (Ay [443] s!"funcs" (Ay [864] s!"module" (Aa 0)))) (MI [2,3]) Z4 [some X,some (.loc 0),none,none] [.list l0]=some (.next,[some X,some (.loc 0),z2,z3],[.list L])) (hL:L.length≤sizeLine)
    (hs:∀ σ,CU [X] σ = some (.d (.lst []),σ))(hg:∀ σ,CH [X] σ = some (.d (.lst []),σ))(he:∀ σ,CG [X] σ = some (.d (.lst []),σ))
    (c4:(C7 (xIt (Ay [443] s!"elems" (Ay [864] s!"module" (Aa 0)))) [] BD xNo) [some X,some (.loc 0),z2,z3] [.list L,.list [],.list []]=some (.loc 3,[.list L,.list [],.list [],.list []]))
    (c5:(C7 (xIt (Ay [443] s!"datas" (Ay [864] s!"module" (Aa 0)))) [] BD xNo) [some X,some (.loc 0),z2,z3] [.list L,.list [],.list [],.list []]=some (.loc 4,[.list L,.list [],.list [],.list [],.list []]))
    (hm:∀ σ,Fv [X] σ = some (.d mk,σ))(hc:(C7 (xIt (Aa 1)) [] BD (Ai AH (xD Eb) (Aa 0))) [some X,some (.loc 0),z2,z3] [.list L,.list [],.list [],.list [],.list []]=some (.loc 5,σ5))
    (b1:AH (.d (.lst [mk])) (.loc 5) σ5=some (.loc 6,σ6)) (b2:AH (.loc 6) (.d (.lst [.str s!")"])) σ6=some (.loc 7,σ7)) (b3:Di [.d (.str (Str.ofString "\n")),.loc 7] σ7=some (.d (.str T),σ7)) (b4:AH (.d (.str T)) (.d (.str (Str.ofString "\n"))) σ7=some (.d (.str T'),σ7)) (nm:Ez [.d mk]=some [mk]) :
    E7 [some X,none,none,none] []=some (.ret (.d (.str T')),[some X,some (.loc 0),z2,z3],σ7):=by
  have a1:AH (.d (.lst [])) (.d (.lst [])) [.list L]=some (.loc 1,[.list L,.list []]):=rfl;have a2:AH (.loc 1) (.d (.lst [])) [.list L,.list []]=some (.loc 2,[.list L,.list [],.list []]):=rfl;have x3:Hq [.loc 0,.loc 2] [.list L,.list [],.list []]=some (.d .none,[.list L,.list [],.list []]):=Xp rfl rfl hL;have x4:Hq [.loc 0,.loc 3] [.list L,.list [],.list [],.list []]=some (.d .none,[.list L,.list [],.list [],.list []]):=Xp rfl rfl hL;have x5:Hq [.loc 0,.loc 4] [.list L,.list [],.list [],.list [],.list []]=some (.d .none,[.list L,.list [],.list [],.list [],.list []]):=Xp rfl rfl hL;unfold E7;erw [u1 _ _,u2 _ _,u4 _ _,u5 _ _,u6 _ _,u7 _ _,hk _,hi _,a0,hs _,hg _,he _,a1,a2,x3,x4,x5,hm _,b1,b2,b3,b4,nm,← s2,← c4,← c5,← hc,← (by decide:(1:Nat)≤sizeLine)]
end
theorem Z5 {a b:Int}{ops:List D}{tcs:List TC}(H:Ops a b ops ops tcs)(hl:ops.length≤100)(ha:a=0∨a=1∨a=2∨a=3)(hb:b=0∨b=1∨b=2∨b=3)(f:Bool)(rows:List Str)
    (hr:rows=if f=true then (tcs.foldl AZ ([],[])).1++(tcs.foldl AZ ([],[])).2 else tcs.map (·.1))(hz:∀ t∈rows,t.length≤20000)(hn:rows.length≤120)(σ:Sto) :
    Cg [.d (prD a b ops f)] σ = some (.d (.str (E0 a b rows)),σ):=by
  refine Fe [prD a b ops f] rfl ?_ σ;have f0:∀ σ,AS [.d (prD a b ops f),.d (.int 0),.d (fn0 ops)] σ = some (.d (.lst ((hd0::(rows.map (stp ++ ·)++[cp])).map sD)),σ):=by
    intro σ;rw [U2 H hl f rows hr (by omega) σ];simp only [List.map_cons,List.map_append,List.map_map,List.map_nil];rfl
  have f1:∀ σ,AS [.d (prD a b ops f),.d (.int 1),.d (fn1 b)] σ = some (.d (.lst ([hdL b,cp].map sD)),σ):=fun σ=>A1F a b ops f σ hb;have f2:∀ σ,AS [.d (prD a b ops f),.d (.int 2),.d fn2] σ = some (.d (.lst ([s!"(func (type 9)",cp].map sD)),σ):=fun σ=>by
    cases f
    · exact ZN a b ops σ
    · exact A1G a b ops σ
  have hE:T4 (Ay [443] s!"funcs" (Ay [864] s!"module" (Aa 0))) [some (.d (prD a b ops f)),some (.loc 0),none,none] [.list (((kL++[Q9 a]).map sD).map .d)]=some (Of (.d (.lst [fn0 ops,fn1 b,fn2])),[.list (((kL++[Q9 a]).map sD).map .d)]):=by kernel_rfl
  generalize hR:HC a b rows=R;have hRn:R.length=rows.length+11:=by rw [← hR];exact Sm a b rows
  have hRz:∀ t∈R,t.length≤20002:=by rw [← hR];exact O6 a b rows hz
  have hrl:∀ k,k≤10→((R.map sD).map AV.d).length+k≤16777216:=fun k hk=>by
    rw [List.length_map,List.length_map,hRn];exact Nat.le_trans (Nat.add_le_add (Nat.add_le_add_right hn 11) hk) (by decide)
  have hL:=hrl 0 (by decide);have s2:=A0v (L:=(R.map sD).map .d) (fun σ y=>by kernel_rfl) hE f0 f1 f2 (by rw [← hR];unfold HC;simp) hL;have hc:C7 (xIt (Aa 1)) [] BD (Ai AH (xD Eb) (Aa 0)) [some (.d (prD a b ops f)),some (.loc 0),some (.d (.int 2)),some (.d fn2)] [.list ((R.map sD).map .d),.list [],.list [],.list [],.list []]=some (.loc 5,[.list ((R.map sD).map .d),.list [],.list [],.list [],.list [],.list (((R.map (stp ++ ·)).map sD).map .d)]):=by
    have:=A6e (xi:=xIt (Aa 1)) (fr:=[]) (xe:=Ai AH (xD Eb) (Aa 0)) (ρ:=[some (.d (prD a b ops f)),some (.loc 0),some (.d (.int 2)),some (.d fn2)]) (σ:=[.list ((R.map sD).map .d),.list [],.list [],.list [],.list []]) (σ₁:=[.list ((R.map sD).map .d),.list [],.list [],.list [],.list []]) (item:=GF (.loc 0)) (l:=(R.map sD).map .d) (fun x=>match x with | .d (.str t)=>.d (.str (stp++t)) | x=>x) rfl (fun i=>rfl) (by rw [List.length_map,List.length_map,hRn];exact Nat.le_trans (Nat.add_le_add_right hn 11) (by decide)) (by
        intro x hx;obtain ⟨y,hy,rfl⟩:=List.mem_map.mp hx;obtain ⟨t,ht,rfl⟩:=List.mem_map.mp hy;have hz:stp.length+t.length≤16777216:=by rw [KV];exact Nat.le_trans (Nat.add_le_add_left (hRz t ht) 2) (by decide)
        exact YH e_D (HI rfl) (I9.trans (if_pos hz)))
    rw [this];simp only [List.map_map,List.length_cons,List.length_nil,List.cons_append,List.nil_append];rfl
  have hj:=XK a b rows hz hn;have b1:AH (.d (.lst [.str s!"(module"])) (.loc 5) [.list ((R.map sD).map .d),.list [],.list [],.list [],.list [],.list (((R.map (stp ++ ·)).map sD).map .d)]=some (.loc 6,[.list ((R.map sD).map .d),.list [],.list [],.list [],.list [],.list (((R.map (stp ++ ·)).map sD).map .d),.list ((([s!"(module"]++R.map (stp ++ ·)).map sD).map .d)]):=by
    show (if 1+(((R.map (stp ++ ·)).map sD).map AV.d).length≤sizeLine then _ else none)=_;rw [if_pos (by rw [sizeLine_eq,List.length_map,List.length_map,List.length_map,hRn];exact Nat.le_trans (Nat.add_le_add_left (Nat.add_le_add_right hn 11) 1) (by decide))];rfl
  have b2:AH (.loc 6) (.d (.lst [.str cp])) [.list ((R.map sD).map .d),.list [],.list [],.list [],.list [],.list (((R.map (stp ++ ·)).map sD).map .d),.list ((([s!"(module"]++R.map (stp ++ ·)).map sD).map .d)]=some (.loc 7,[.list ((R.map sD).map .d),.list [],.list [],.list [],.list [],.list (((R.map (stp ++ ·)).map sD).map .d),.list ((([s!"(module"]++R.map (stp ++ ·)).map sD).map .d),.list (((Cc a b rows).map sD).map .d)]):=by
    show (if ((([s!"(module"]++R.map (stp ++ ·)).map sD).map AV.d).length+1≤sizeLine then _ else none)=_
    rw [if_pos (by rw [sizeLine_eq,List.length_map,List.length_map,List.length_append,List.length_map,hRn];exact Nat.le_trans (Nat.add_le_add_right (Nat.add_le_add_left (Nat.add_le_add_right hn 11) 1) 1) (by decide))];unfold Cc;rw [hR];simp
  have b3:Di [.d (.str (Str.ofString "\n")),.loc 7] [.list ((R.map sD).map .d),.list [],.list [],.list [],.list [],.list (((R.map (stp ++ ·)).map sD).map .d),.list ((([s!"(module"]++R.map (stp ++ ·)).map sD).map .d),.list (((Cc a b rows).map sD).map .d)]=some (.d (.str (Txt.join (Str.ofString "\n") (Cc a b rows))),[.list ((R.map sD).map .d),.list [],.list [],.list [],.list [],.list (((R.map (stp ++ ·)).map sD).map .d),.list ((([s!"(module"]++R.map (stp ++ ·)).map sD).map .d),.list (((Cc a b rows).map sD).map .d)]):=by
    show (Option.bind (Ga (((Cc a b rows).map sD).map .d)) _)=_;have:Ga (((Cc a b rows).map sD).map .d)=some (Cc a b rows):=by rw [List.map_map];exact Iw _
    rw [this,Option.bind_some,if_pos hj]
  exact ⟨_,_,A7C (fun σ y=>by kernel_rfl) (fun σ y=>by kernel_rfl) (fun σ y=>by kernel_rfl) (fun σ y=>by kernel_rfl) (fun σ y=>by kernel_rfl) (fun σ y=>by kernel_rfl) (fun ξ=>Ua a b ops f _) (fun ξ=>ZR a b ops f (ha:=ha) _) rfl s2 hL (fun ξ=>A2J a b ops f _) (fun ξ=>ZQ a b ops f _) (fun ξ=>ZF a b ops f _) (by kernel_rfl) (by kernel_rfl) (fun ξ=>A38 a b ops f _) hc b1 b2 b3 (I9.trans (if_pos (A0t a b rows hz hn))) rfl⟩
theorem SU {x:XS} (d0:D){d:D}(h:∃ ρ' σ',x [some (.d d0),some (.d .none)] []=some (.ret (.d d),ρ',σ'))(σ:Sto):Bc (WJ 2 [.none] 0 x) [.d d0] σ = some (.d d,σ):=by
  obtain ⟨ρ',σ',h⟩:=h;unfold Bc WJ;simp only [Ez,Option.map_some,Option.bind_some,List.length_cons,List.length_nil,if_true,List.map_cons,List.map_nil,List.cons_append,List.nil_append,List.replicate,List.append_nil,h,Ye]
theorem Qt (a b:Int)(ops:List D)(f:Bool):xFz (Av (A8 (Aa 0) (A8 (Aa 1) (A8 (xD (.bool f)) Af))) L2) [some (.d (Ce a b ops)),some (.d .none)] []=some (.d (prD a b ops f),[.dead,.dead]):=by kernel_rfl
section
variable {a b:Int}{ops:List D}{tcs:List TC}(H:Ops a b ops ops tcs)(hl:ops.length≤100)(ha:a=0∨a=1∨a=2∨a=3)(hb:b=0∨b=1∨b=2∨b=3)(rows:List Str)(hz:∀ t∈rows,t.length≤20000)(hn:rows.length≤120)
include H hl ha hb hz hn
theorem A2v (hr:rows=tcs.map (·.1))(σ:Sto):Dk [.d (Ce a b ops)] σ = some (.d (.str (E0 a b rows)),σ):=by
  have hU:Bz s!"text" (mC 864 Cg mN) (.d (prD a b ops false)) [.dead,.dead]=some Cg:=by kernel_rfl
  have ht:=Z5 H hl ha hb false rows hr hz hn [.dead,.dead];have hp:=Qt a b ops false;have hx:E8 [some (.d (Ce a b ops)),some (.d .none)] []=some (.ret (.d (.str (E0 a b rows))),[some (.d (Ce a b ops)),some (.d .none)],[.dead,.dead]):=by
    unfold E8 Al B8 xMt;simp only [hp,hU,Af,ht,Option.bind_some]
  exact SU _ ⟨_,_,hx⟩ σ
theorem A1C (hr:rows=(tcs.foldl AZ ([],[])).1++(tcs.foldl AZ ([],[])).2)(σ:Sto):Dx [.d (Ce a b ops)] σ = some (.d (.str (E0 a b rows)),σ):=by
  have hU:Bz s!"text" (mC 864 Cg mN) (.d (prD a b ops true)) [.dead,.dead]=some Cg:=by kernel_rfl
  have ht:=Z5 H hl ha hb true rows hr hz hn [.dead,.dead];have hp:=Qt a b ops true;have hx:EF [some (.d (Ce a b ops)),some (.d .none)] []=some (.ret (.d (.str (E0 a b rows))),[some (.d (Ce a b ops)),some (.d .none)],[.dead,.dead]):=by
    unfold EF Al B8 xMt;simp only [hp,hU,Af,ht,Option.bind_some]
  exact SU _ ⟨_,_,hx⟩ σ
end
structure Rw (t:Str):Prop where
  nl:10 ∉ cl t
  hd:∃ c r,cl t=c::r∧c≠32
theorem SD (z x:Str):∀ l:List Str,l≠[]→Str.join z (l++[x])=Str.join z l++z++x
  | [],h=>absurd rfl h
  | [y],_=>rfl
  | y::y'::l,_=>by
    show y++z++Str.join z ((y'::l)++[x])=(y++z++Str.join z (y'::l))++z++x;rw [SD z x (y'::l) (by simp)];simp only [Str.append_assoc]
theorem A0s (a b:Int)(rows:List Str):E0 a b rows=Str.join ⟨#[10]⟩ (Cc a b rows++[Str.empty]):=by
  unfold E0;rw [SD _ _ _ (by unfold Cc;simp),Iy,A4Z,Str.append_empty]
noncomputable abbrev Ko (a:Int):List Str:=s!"(module" :: (kL++[Q9 a]).map (stp ++ ·)
noncomputable abbrev G9 (b:Int):List Str:=[stp++hdL b,stp++cp,stp++s!"(func (type 9)",stp++cp,cp,Str.empty]
noncomputable abbrev EA:Str:=s!"  (func (type 0) (local i32 i64)"
noncomputable abbrev Hu:Str:=s!"  )"
noncomputable abbrev Cm (rows:List Str):List Str:=rows.map fun t=>stp++(stp++t)
theorem A19 (a b:Int)(rows:List Str):Cc a b rows++[Str.empty]=Ko a++EA::(Cm rows++Hu::G9 b):=by
  have h1:stp++hd0=EA:=by decide +kernel
  have h2:stp++cp=Hu:=by decide +kernel
  unfold Cc HC Cm;simp only [List.map_append,List.map_cons,List.map_map,List.map_nil,List.cons_append,List.nil_append,List.append_assoc,← h1,← h2];rfl
theorem A4e (a b:Int)(rows:List Str)(h:∀ t∈rows,Rw t):∀ p∈Ko a++EA::(Cm rows++Hu::G9 b),10 ∉ cl p:=by
  have hi:∀ a:Int,10 ∉ cl (stp++Q9 a):=by
    intro a;unfold Q9;split
    · decide +kernel
    · split
      · decide +kernel
      · split <;> decide +kernel
  have hh:∀ a:Int,10 ∉ cl (stp++hdL a):=by
    intro a;unfold hdL;split
    · decide +kernel
    · split
      · decide +kernel
      · split <;> decide +kernel
  intro p hp;simp only [Ko,G9,Cm,kL,List.map_append,List.map_cons,List.map_nil,List.mem_append,List.mem_cons,List.mem_map,List.not_mem_nil,or_false,List.cons_append,List.nil_append] at hp;rcases hp with rfl | rfl | rfl | rfl | rfl | rfl | rfl | ⟨t,ht,rfl⟩ | rfl | rfl | rfl | rfl | rfl | rfl | rfl
  · decide +kernel
  · decide +kernel
  · decide +kernel
  · decide +kernel
  · decide +kernel
  · exact hi a
  · decide +kernel
  · rw [BT,BT]
    have:=(h t ht).nl;have h2:cl stp=[32,32]:=by decide +kernel
    rw [h2]
    simpa using this
  · decide +kernel
  · exact hh b
  · decide +kernel
  · decide +kernel
  · decide +kernel
  · decide +kernel
  · decide +kernel
theorem M5 (x:Str)(rest:List Str):∀ (pre:List Str) (k st:Nat),(∀ (i:Nat) (y:Str),pre[i]? = some y→st≤k+i→y≠x)→st≤k+pre.length→FM x (pre++x::rest) k st=some (k+pre.length)
  | [],k,st,_,h=>by
    show (if st≤k∧x=x then some k else _)=_;rw [if_pos ⟨h,rfl⟩];rfl
  | y::pre,k,st,hp,h=>by
    show (if st≤k∧y=x then some k else FM x (pre++x::rest) (k+1) st)=_;rw [if_neg (fun e=>hp 0 y rfl e.1 e.2),M5 x rest pre (k+1) st (fun i z hz hs=>hp (i+1) z hz (by omega)) (by simp only [List.length_cons] at h;omega)];simp only [List.length_cons]
    congr 1;omega
theorem PJ:cl stp=[32,32]:=by decide +kernel
theorem A1L (a b:Int)(rows:List Str):FM EA (Ko a++EA::(Cm rows++Hu::G9 b)) 0 0=some 6:=by
  have:=M5 EA (Cm rows++Hu::G9 b) (Ko a) 0 0 ?_ (Nat.zero_le _)
  · exact this
  · intro i y hy _ e
    have hm:=List.mem_of_getElem? hy;have hi:∀ a:Int,decide (stp++Q9 a=EA)=false:=by
      intro a;unfold Q9;split
      · decide +kernel
      · split
        · decide +kernel
        · split <;> decide +kernel
    simp only [Ko,kL,List.map_append,List.map_cons,List.map_nil,List.mem_append,List.mem_cons,List.not_mem_nil,or_false,List.cons_append,List.nil_append] at hm;subst e;rcases hm with h | h | h | h | h | h
    · exact absurd h (of_decide_eq_false (by decide +kernel))
    · exact absurd h (of_decide_eq_false (by decide +kernel))
    · exact absurd h (of_decide_eq_false (by decide +kernel))
    · exact absurd h (of_decide_eq_false (by decide +kernel))
    · exact absurd h (of_decide_eq_false (by decide +kernel))
    · exact absurd h.symm (of_decide_eq_false (hi a))
theorem A32 (a b:Int)(rows:List Str):FM Hu (Ko a++EA::(Cm rows++Hu::G9 b)) 0 6=some (7+rows.length):=by
  have:=M5 Hu (G9 b) (Ko a++EA::Cm rows) 0 6 ?_ (by simp)
  · rw [List.append_assoc] at this
    rw [show Ko a++EA::(Cm rows++Hu::G9 b)=Ko a++(EA::Cm rows++Hu::G9 b) from rfl,this];simp;omega
  · intro i y hy hi e
    subst e;rw [List.getElem?_append_right (by show 6≤i;omega)] at hy;have hm:=List.mem_of_getElem? hy;rcases List.mem_cons.mp hm with h | h
    · exact absurd h (of_decide_eq_false (by decide +kernel))
    · obtain ⟨t,ht,e⟩:=List.mem_map.mp h
      have:=congrArg cl e;rw [BT,BT,PJ,show cl Hu=[32,32,41] from by decide +kernel] at this
      simp at this
theorem A2t {α:Type}(A B C:List α)(i j:Int)(hi:i=A.length)(hj:j=A.length+B.length):Gv (A++(B++C)) (some i) (some j)=B:=by
  subst hi;subst hj;unfold Gv;have h1:kms_lo (some (A.length:Int)) (A++(B++C)).length=A.length:=by
    unfold kms_lo;show (if ((A.length:Int) < 0) then _ else _)=_;rw [if_neg (by omega)];simp <;> omega
  have h2:kms_hi (some ((A.length:Int)+B.length)) (A++(B++C)).length=A.length+B.length:=by
    unfold kms_hi;show (if ((A.length:Int)+B.length < 0) then _ else _)=_;rw [if_neg (by omega)];simp <;> omega
  rw [h1,h2];simp
theorem A0p (t:Str):Txt.slice (stp++(stp++t)) none (some 4)=stp++stp:=by
  have e:Txt.slice (stp++(stp++t)) none (some 4)=StrLaws.sliceText (stp++(stp++t)) none (some 4):=rfl;have hc:cl (stp++(stp++t))=[32,32,32,32]++cl t:=by rw [BT,BT,PJ];rfl
  rw [e,StrLaws.sliceText_to ⟨by decide,by
    show (4:Int)≤(cl (stp++(stp++t))).length;rw [hc];simp;omega⟩]
  apply Nr;show (((cl (stp++(stp++t))).drop 0).take (4 - 0:Int).toNat)=cl (stp++stp);rw [hc,BT,PJ];rfl
theorem Wu (t:Str):Txt.slice (stp++(stp++t)) (some 4) none=t:=by
  have e:Txt.slice (stp++(stp++t)) (some 4) none=StrLaws.sliceText (stp++(stp++t)) (some 4) none:=rfl;have hc:cl (stp++(stp++t))=[32,32,32,32]++cl t:=by rw [BT,BT,PJ];rfl
  rw [e,StrLaws.sliceText_from ⟨by decide,by
    show (4:Int)≤(cl (stp++(stp++t))).length;rw [hc];simp;omega⟩]
  apply Nr;show (((cl (stp++(stp++t))).drop (4:Int).toNat).take (((cl (stp++(stp++t))).length:Int) - 4).toNat)=cl t;rw [hc];show (cl t).take _=cl t;rw [List.take_of_length_le];simp;omega
theorem A2I (t:Str)(c:Nat)(r:List Nat)(h:cl t=c::r):Txt.slice (stp++(stp++t)) (some 4) (some 5)=⟨#[c]⟩:=by
  have e:Txt.slice (stp++(stp++t)) (some 4) (some 5)=StrLaws.sliceText (stp++(stp++t)) (some 4) (some 5):=rfl;have hc:cl (stp++(stp++t))=[32,32,32,32,c]++r:=by rw [BT,BT,PJ,h];rfl
  rw [e,StrLaws.sliceText_plain ⟨by decide,by decide,by
    show (5:Int)≤(cl (stp++(stp++t))).length;rw [hc];simp;omega⟩]
  apply Nr;show (((cl (stp++(stp++t))).drop (4:Int).toNat).take (5 - 4:Int).toNat)=[c];rw [hc];rfl
theorem Ej {g:XF2}{xa xb:XE}{ρ:Lo}{σ σ₁ σ₂:Sto}{a b:AV}{r:Option (AV×Sto)} (h1:xa ρ σ = some (a,σ₁)) (h2:xb ρ σ₁ = some (b,σ₂)) (h3:g a b σ₂ = r):Ai g xa xb ρ σ = r:=by
  unfold Ai;rw [h1,Option.bind_some];dsimp only;rw [h2,Option.bind_some];exact h3
theorem WC {xa:XE}{ρ:Lo}{σ σ':Sto}{b:Bool}(h:xa ρ σ = some (.d (.bool b),σ')):xTr xa ρ σ = some (b,σ'):=by
  unfold xTr;rw [h];rfl
theorem A6b {b:XT}{x y:XS}{ρ:Lo}{σ σ':Sto}{r:Option (Fl×Lo×Sto)}(h:b ρ σ = some (false,σ'))(k:y ρ σ'=r):AO b x y ρ σ = r:=by
  unfold AO;rw [h];exact k
theorem A6c {b:XT}{x y:XS}{ρ:Lo}{σ σ':Sto}{r:Option (Fl×Lo×Sto)}(h:b ρ σ = some (true,σ'))(k:x ρ σ'=r):AO b x y ρ σ = r:=by
  unfold AO;rw [h];exact k
theorem VP {x:XE}{ρ:Lo}{σ σ₁ σ₂:Sto}{a:AV}{d:D}(h:x ρ σ = some (a,σ₁))(k:frz a σ₁ = some (d,σ₂)):xFz x ρ σ = some (.d d,σ₂):=by
  unfold xFz;rw [h,Option.bind_some];dsimp only;rw [k];rfl
theorem UG {x:XE}{y:XS}{ρ:Lo}{σ σ₁:Sto}{a:AV}(h:x ρ σ = some (a,σ₁)):Al (B8 x) y ρ σ = some (.ret a,ρ,σ₁):=by
  unfold Al B8;rw [h];rfl
theorem M6 {i:Nat}{x:XE}{ρ:Lo}{σ σ₁:Sto}{a:AV}(h:x ρ σ = some (a,σ₁)):Bm i x ρ σ = some (.next,ρ.set i (some a),σ₁):=by
  unfold Bm;rw [h];rfl
theorem A0u (a b:Int)(rows:List Str)(h:∀ t∈rows,t.length≤20000)(hn:rows.length≤120):(E0 a b rows).length+2≤16777216:=by
  unfold E0;rw [BA,Uj];exact Nat.le_trans (Nat.add_le_add_right (Nat.add_le_add_right (WB a b rows h hn) 1) 2) (by decide)
theorem Vb {rows:List Str}{P:AV→Prop}(h:∀ t∈rows,P (.d (.str (stp++(stp++t))))):∀ x∈((Cm rows).map sD).map AV.d,P x:=by
  intro x hx;obtain ⟨y,hy,rfl⟩:=List.mem_map.mp hx;obtain ⟨u,hu,rfl⟩:=List.mem_map.mp hy;obtain ⟨t,ht,rfl⟩:=List.mem_map.mp hu;exact h t ht
set_option tactic.hygienic true in
theorem PB (a b:Int)(rows:List Str)(hw:∀ t∈rows,Rw t)(hz:∀ t∈rows,t.length≤20000)(hn:rows.length≤120)(σ:Sto) :
    BZ [.d (.str (E0 a b rows))] σ = some (.d (.lst (rows.map sD)),σ):=by
  refine Fe [.str (E0 a b rows)] rfl ?_ σ;show ∃ ρ' σ',EG [some (.d (.str (E0 a b rows))),none,none,none] []=_;have hsp:Txt.split (E0 a b rows) ⟨#[10]⟩=Ko a++EA::(Cm rows++Hu::G9 b):=by
    rw [A0s,A19];exact Y4 10 _ (List.cons_ne_nil _ _) (A4e a b rows hw)
  have hbn:(Cm rows).length=rows.length:=List.length_map _;have hlen:(Ko a++EA::(Cm rows++Hu::G9 b)).length=rows.length+14:=by
    show (Cm rows++Hu::G9 b).length+7=_;rw [List.length_append,hbn];rfl
  have i1:=A1L a b rows;have i2:=A32 a b rows;have htl:=A0u a b rows hz hn;have hps:=XX (E0 a b rows) ⟨#[10]⟩ htl;have hmid:Gv ((Ko a++EA::(Cm rows++Hu::G9 b)).map sD) (some 7) (some ((7+rows.length:Nat):Int))=(Cm rows).map sD:=by
    have e:(Ko a++EA::(Cm rows++Hu::G9 b)).map sD=((Ko a++[EA]).map sD)++((Cm rows).map sD++(Hu::G9 b).map sD):=by
      rw [← List.map_append,← List.map_append,List.append_assoc];rfl
    rw [e];exact A2t _ _ _ _ _ rfl (by rw [List.length_map,List.length_map,hbn];rfl)
  have hn14:(Ko a++EA::(Cm rows++Hu::G9 b)).length≤16777216:=by
    rw [hlen];exact Nat.le_trans (Nat.add_le_add_right hn 14) (by decide)
  generalize hL:Ko a++EA::(Cm rows++Hu::G9 b)=L at hsp hlen i1 i2 hmid hn14;generalize E0 a b rows=T at hsp htl hps;have hT:T.length≤sizeLine:=by rw [sizeLine_eq];exact Nat.le_trans (Nat.le_add_right _ 2) htl
  have s1:Bm 1 (xFz (xMt (Hp KE) (Aa 0) (A8 (xD (.str (Str.ofString "\n"))) Af))) [some (.d (.str T)),none,none,none] []=some (.next,[some (.d (.str T)),some (.d (.lst (L.map sD))),none,none],[.dead]):=by
    have hy:KE [.d (.str T),.d (.str ⟨#[10]⟩)] []=some (.loc 0,[.list ((L.map sD).map .d)]):=by
      show (if ((⟨#[10]⟩:Str).length == 0)=false∧T.length≤sizeLine∧(Builtin.Str.partsBetween T (Builtin.Str.occurrences T ⟨#[10]⟩ 0 T.length (T.length+1)) (⟨#[10]⟩:Str).length).length≤sizeLine then some (AV.loc 0,[SO.list ((Txt.split T ⟨#[10]⟩).map fun y=>.d (.str y))]) else none)=_;rw [if_pos ⟨by decide,hT,hps⟩,hsp,List.map_map];rfl
    have hf:frz (.loc 0) [.list ((L.map sD).map .d)]=some (.lst (L.map sD),[.dead]):=by
      have:=IP (σ:=[]) (ds:=L.map sD);exact this
    rw [A4Z];exact A1k (e_Fz (A1l (HI rfl) rfl (IN e_D Q2) hy) hf)
  have hst:∀ σ:Sto,(AU σ (.d (.lst (L.map sD)))).bind Ga=some L:=fun σ=>by
    show Ga ((L.map sD).map .d)=some L;rw [List.map_map];exact Iw L
  have s2:Bm 2 (xMt (CR KD) (Aa 1) (A8 (xD (.str s!"  (func (type 0) (local i32 i64)")) Af)) [some (.d (.str T)),some (.d (.lst (L.map sD))),none,none] [.dead]=some (.next,[some (.d (.str T)),some (.d (.lst (L.map sD))),some (.d (.int 6)),none],[.dead]):=by
    have hy:KD [.d (.lst (L.map sD)),.d (.str EA)] [.dead]=some (.d (.int 6),[.dead]):=by
      show ((AU [.dead] (.d (.lst (L.map sD)))).bind Ga).bind (fun xs=>Yk EA 0 xs [.dead])=_;rw [hst,Option.bind_some];unfold Yk;rw [if_pos ⟨Int.le_refl 0,by rw [sizeLine_eq];exact hn14⟩];show (FM EA L 0 0).bind _=_;rw [i1];rfl
    exact A1k (A1l (HI rfl) rfl (IN e_D Q2) hy)
  have s3:Bm 3 (xSl true (Aa 1) (Ai AH (Aa 2) (xD (.int 1))) (xMt (CR KD) (Aa 1) (A8 (xD (.str s!"  )")) (A8 (Aa 2) Af)))) [some (.d (.str T)),some (.d (.lst (L.map sD))),some (.d (.int 6)),none] [.dead]=some (.next,[some (.d (.str T)),some (.d (.lst (L.map sD))),some (.d (.int 6)),some (.d (.lst ((Cm rows).map sD)))],[.dead]):=by
    have hy:KD [.d (.lst (L.map sD)),.d (.str Hu),.d (.int 6)] [.dead]=some (.d (.int ((7+rows.length:Nat):Int)),[.dead]):=by
      show ((AU [.dead] (.d (.lst (L.map sD)))).bind Ga).bind (fun xs=>Yk Hu 6 xs [.dead])=_;rw [hst,Option.bind_some];unfold Yk;rw [if_pos ⟨by decide,by rw [sizeLine_eq];exact hn14⟩];show (FM Hu L 0 6).bind _=_;rw [i2];rfl
    have ha:AH (.d (.int 6)) (.d (.int 1)) [.dead]=some (.d (.int 7),[.dead]):=rfl;have hs:Ie true (.d (.lst (L.map sD))) (.d (.int 7)) (.d (.int ((7+rows.length:Nat):Int))) [.dead]=some (.d (.lst ((Cm rows).map sD)),[.dead]):=by
      show (if ((L.map sD).map AV.d).length≤sizeLine then (Ez (Gv ((L.map sD).map AV.d) (some 7) (some ((7+rows.length:Nat):Int)))).map (fun ds=>(AV.d (.lst ds),[SO.dead])) else none)=_;have hp:Gv ((L.map sD).map AV.d) (some 7) (some ((7+rows.length:Nat):Int))=((Cm rows).map sD).map AV.d:=by
        rw [← hmid];unfold Gv;rw [List.map_take,List.map_drop,List.length_map]
      rw [if_pos (by rw [sizeLine_eq,List.length_map,List.length_map];exact hn14),hp,C0];rfl
    exact A1k (A1m (HI rfl) (YH (HI rfl) e_D ha) (A1l (HI rfl) rfl (IN e_D (IN (HI rfl) Q2)) hy) hs)
  have hbz:∀ t∈rows,(stp++(stp++t)).length≤sizeLine:=fun t ht=>by
    rw [BA,BA,KV,sizeLine_eq];exact Nat.le_trans (Nat.add_le_add_left (Nat.add_le_add_left (hz t ht) 2) 2) (by decide)
  have s4:(AO (xTr (Ai (AF .NotEq) (xFz (C7 (xIt (Aa 3)) [] (DM (xTr (Ai (AF .NotEq) (xSl true (Aa 0) (xD .none) (xD (.int 4))) (xD (.str s!"    ")))) (DM (xTr (Ai (AF .Eq) (xSl true (Aa 0) (xD (.int 4)) (xD (.int 5))) (xD (.str s!" ")))) E1)) (Aa 0))) (AJ Af))) (Al (B8 (xD .none)) Am) Am) [some (.d (.str T)),some (.d (.lst (L.map sD))),some (.d (.int 6)),some (.d (.lst ((Cm rows).map sD)))] [.dead]=some (.next,[some (.d (.str T)),some (.d (.lst (L.map sD))),some (.d (.int 6)),some (.d (.lst ((Cm rows).map sD)))],[.dead,.dead]):=by
    have hc:=MA (xi:=xIt (Aa 3)) (fr:=[]) (xt:=(DM (xTr (Ai (AF .NotEq) (xSl true (Aa 0) (xD .none) (xD (.int 4))) (xD (.str s!"    ")))) (DM (xTr (Ai (AF .Eq) (xSl true (Aa 0) (xD (.int 4)) (xD (.int 5))) (xD (.str s!" ")))) E1))) (xe:=Aa 0) (ρ:=[some (.d (.str T)),some (.d (.lst (L.map sD))),some (.d (.int 6)),some (.d (.lst ((Cm rows).map sD)))]) (σ:=[.dead]) (σ₁:=[.dead]) (item:=GF (.d (.lst ((Cm rows).map sD)))) (l:=((Cm rows).map sD).map .d) rfl (Md _) (by rw [List.length_map,List.length_map,hbn];exact Nat.le_trans hn (by decide));rw [SW _ _ (Vb (rows:=rows) fun t ht=>by
      obtain ⟨c,r,hcr,hc32⟩:=(hw t ht).hd;have z:=hbz t ht;have v1:∀ σ:Sto,Ie true (.d (.str (stp++(stp++t)))) (.d .none) (.d (.int 4)) σ = some (.d (.str (stp++stp)),σ):=fun σ=>by
        show (if (stp++(stp++t)).length≤sizeLine then some (AV.d (.str (Txt.slice (stp++(stp++t)) none (some 4))),σ) else none)=_;rw [if_pos z,A0p]
      have v2:∀ σ:Sto,Ie true (.d (.str (stp++(stp++t)))) (.d (.int 4)) (.d (.int 5)) σ = some (.d (.str ⟨#[c]⟩),σ):=fun σ=>by
        show (if (stp++(stp++t)).length≤sizeLine then some (AV.d (.str (Txt.slice (stp++(stp++t)) (some 4) (some 5))),σ) else none)=_;rw [if_pos z,A2I t c r hcr]
      have v3:decide (stp++stp=s!"    ")=true:=by decide +kernel
      have v4:decide ((⟨#[c]⟩:Str)=s!" ")=false:=decide_eq_false fun e=>by
        have:=congrArg cl e;rw [e32] at this;exact hc32 (by simpa [cl] using this)
      exact e_Or (e_Tr (YH (A1m (HI rfl) e_D e_D (v1 _)) e_D (by rw [A2q,v3];rfl))) (e_of (e_Or (e_Tr (YH (A1m (HI rfl) e_D e_D (v2 _)) e_D (by rw [Qs,v4]))) (e_of A3P))))] at hc
    have hc':C7 (xIt (Aa 3)) [] (DM (xTr (Ai (AF .NotEq) (xSl true (Aa 0) (xD .none) (xD (.int 4))) (xD (.str s!"    ")))) (DM (xTr (Ai (AF .Eq) (xSl true (Aa 0) (xD (.int 4)) (xD (.int 5))) (xD (.str s!" ")))) E1)) (Aa 0) [some (.d (.str T)),some (.d (.lst (L.map sD))),some (.d (.int 6)),some (.d (.lst ((Cm rows).map sD)))] [.dead]=some (.loc 1,[.dead,.list []]):=hc;have hf:frz (.loc 1) [.dead,.list []]=some (.lst [],[.dead,.dead]):=rfl;have hq:AF .NotEq (.d (.lst [])) (.d (.lst [])) [.dead,.dead]=some (.d (.bool false),[.dead,.dead]):=rfl;exact A6b (WC (Ej (VP hc' hf) (rfl:AJ Af _ _=some (.d (.lst []),_)) hq)) rfl
  have s5:=YL (xi:=xIt (Aa 3)) (fr:=[]) (xe:=xSl true (Aa 0) (xD (.int 4)) (xD .none)) (ρ:=[some (.d (.str T)),some (.d (.lst (L.map sD))),some (.d (.int 6)),some (.d (.lst ((Cm rows).map sD)))]) (σ:=[.dead,.dead]) (σ₁:=[.dead,.dead]) (item:=GF (.d (.lst ((Cm rows).map sD)))) (l:=((Cm rows).map sD).map .d) (rows.map sD)
    (fun x=>match x with | .d (.str t)=>.d (.str (Txt.slice t (some 4) none)) | x=>x) rfl (Md _) (by rw [List.length_map,List.length_map,hbn];exact Nat.le_trans hn (by decide)) (Vb (rows:=rows) fun t ht=>by
      have z:=hbz t ht;have v1:∀ σ:Sto,Ie true (.d (.str (stp++(stp++t)))) (.d (.int 4)) (.d .none) σ = some (.d (.str (Txt.slice (stp++(stp++t)) (some 4) none)),σ):=fun σ=>by
        show (if (stp++(stp++t)).length≤sizeLine then some (AV.d (.str (Txt.slice (stp++(stp++t)) (some 4) none)),σ) else none)=_;rw [if_pos z]
      exact A1m (HI rfl) e_D e_D (v1 _)) (by
      rw [List.map_map,List.map_map,List.map_map,List.map_map];refine List.map_congr_left fun t ht=>?_;show AV.d (.str (Txt.slice (stp++(stp++t)) (some 4) none))=AV.d (.str t);rw [Wu])
  unfold EG;rw [C3 s1,C3 s2,C3 s3,C3 s4];exact ⟨_,_,UG s5⟩
theorem LV {xa xb:XE}{ρ:Lo}{σ σ₁ σ₂:Sto} {l1 l2:List D} (h1:xa ρ σ = some (.d (.lst l1),σ₁)) (h2:xb ρ σ₁ = some (.d (.lst l2),σ₂))(hz:l1.length+l2.length≤16777216) :
    xFz (Ai AH xa xb) ρ σ = some (.d (.lst (l1++l2)),σ₂ ++ [.dead]):=by
  refine VP (a:=.loc σ₂.length) (σ₁:=σ₂ ++ [.list ((l1++l2).map .d)]) (Ej h1 h2 ?_) IP;rw [YX,if_pos (by rw [sizeLine_eq,List.length_map,List.length_map];exact hz),List.map_append]
theorem lst1 {x:XE}{ρ:Lo}{σ σ₁:Sto}{d:D}(h:x ρ σ = some (.d d,σ₁)):AJ (A8 x Af) ρ σ = some (.d (.lst [d]),σ₁):=by
  unfold AJ A8 Af;rw [h];rfl
theorem asgS2 {xa xb:XE} {r0 r1 r2 r3 r4 r5 r6:Option AV}{σ σ₁ σ₂:Sto}{a b:AV}(ha:xa [r0,r1,r2,r3,r4,r5,r6] σ = some (a,σ₁))(hb:xb [r0,r1,r2,r3,r4,r5,r6] σ₁ = some (b,σ₂)) :
    DJ [2,3] (A8 xa (A8 xb Af)) [r0,r1,r2,r3,r4,r5,r6] σ = some (.next,[r0,r1,some a,some b,r4,r5,r6],σ₂):=by
  unfold DJ A8 Af;rw [ha,Option.bind_some];dsimp only;rw [hb];rfl
theorem A2G {l:List Str}(n:Nat)(h:n≤l.length)(hl:l.length≤100000)(σ:Sto):Ie true (.d (.lst (l.map sD))) (.d (.int (n:Int))) (.d .none) σ = some (.d (.lst ((l.drop n).map sD)),σ):=by
  show (if ((l.map sD).map AV.d).length≤sizeLine then (Ez (Gv ((l.map sD).map AV.d) (some (n:Int)) none)).map (fun ds=>(AV.d (.lst ds),σ)) else none)=_;rw [if_pos (by rw [sizeLine_eq,List.length_map,List.length_map];omega),SP _ n (by rw [List.length_map,List.length_map];exact h),← List.map_drop,← List.map_drop,C0];rfl
theorem A7z {l:List Str}(n:Nat)(h:n≤l.length)(hl:l.length≤100000)(σ:Sto):Ie true (.d (.lst (l.map sD))) (.d .none) (.d (.int (n:Int))) σ = some (.d (.lst ((l.take n).map sD)),σ):=by
  show (if ((l.map sD).map AV.d).length≤sizeLine then (Ez (Gv ((l.map sD).map AV.d) none (some (n:Int)))).map (fun ds=>(AV.d (.lst ds),σ)) else none)=_;rw [if_pos (by rw [sizeLine_eq,List.length_map,List.length_map];omega),YZ _ n (by rw [List.length_map,List.length_map];exact h),← List.map_take,← List.map_take,C0];rfl
theorem MH {l:List D}{i:Nat}{x:D}(h:l[i]? = some x)(hi:i < 100000)(σ:Sto):AE (.d (.lst l)) (.d (.int (i:Int))) σ = some (.d x,σ):=by
  rw [g_lst];have hlt:i < l.length:=by rw [List.getElem?_eq_some_iff] at h;exact h.1
  rw [if_pos (by unfold Dv;rw [decide_eq_true (by omega),decide_eq_true (by omega)];rfl)];rw [StrLaws.seqIndex_nonneg (by omega) (by rw [List.length_map];omega),Option.bind_some];show ((l.map AV.d)[i]?).map _=_;rw [List.getElem?_map,h];rfl
theorem or2_t {xa xb:XT}{ρ:Lo}{σ σ':Sto}(h:xa ρ σ = some (true,σ')):DM xa xb ρ σ = some (true,σ'):=by
  unfold DM;rw [h];rfl
theorem or2_f {xa xb:XT}{ρ:Lo}{σ σ':Sto}{r:Option (Bool×Sto)}(h:xa ρ σ = some (false,σ'))(k:xb ρ σ'=r):DM xa xb ρ σ = r:=by
  unfold DM;rw [h];exact k
theorem Fw {x:XE}{y:XC}{ρ:Lo}{σ σ₁:Sto}{a:AV}{r:Option (AV×Sto)}(h:x ρ σ = some (a,σ₁))(k:y [a] σ₁ = r):Av (A8 x Af) y ρ σ = r:=by
  unfold Av A8 Af;rw [h];exact k
theorem Wo {xe:XE}{ρ:Lo}{σ σ₁:Sto}{n:Int}(h:xe ρ σ = some (.d (.int n),σ₁)) (h1:-(2 ^ 62)≤n) (h2:n < 2 ^ 62):Ic xe ρ σ = some (HJ n,σ₁):=by
  unfold Ic;rw [h,Option.bind_some];exact if_pos ⟨h1,h2⟩
noncomputable def G5:XS:=(Al (AO (DM (xTr (Ai (AF .Is) (Ai AE (Aa 1) (Aa 4)) (xD .none))) (DM (xTr (Ai (AF .Gt) (Ai AE (Ai AE (Aa 1) (Aa 4)) (xD (.int 0))) (Av (A8 (Aa 3) Af) BW))) E1)) (Al (DJ [2,3] (A8 (xFz (Ai AH (xFz (Ai AH (Aa 2) (Aa 3))) (AJ (A8 (Ai AE (Aa 0) (Aa 4)) Af)))) (A8 (AJ Af) Af))) Am) (Al (Bm 5 (Ai J2 (Av (A8 (Aa 3) Af) BW) (Ai AE (Ai AE (Aa 1) (Aa 4)) (xD (.int 0))))) (Al (Bm 6 (Ai AH (Ai AH (xD (.str s!"(")) (xMt (Hp Di) (xD (.str s!" ")) (A8 (xFz (Ai AH (AJ (A8 (Ai AE (Aa 0) (Aa 4)) Af)) (xSl true (Aa 3) (Aa 5) (xD .none)))) Af))) (xD (.str s!")")))) (Al (Bm 3 (xFz (Ai AH (xSl true (Aa 3) (xD .none) (Aa 5)) (AJ (A8 (Aa 6) Af))))) (Al (AO (xTr (Ai (AF .NotEq) (Ai AE (Ai AE (Aa 1) (Aa 4)) (xD (.int 1))) (xD (.int 1)))) (Al (DJ [2,3] (A8 (xFz (Ai AH (Aa 2) (Aa 3))) (A8 (AJ Af) Af))) Am) Am) Am))))) Am)
set_option tactic.hygienic true in
theorem next_end {x:XS}{ρ ρ':Lo}{σ σ':Sto}(h:x ρ σ = some (.next,ρ',σ')):Al x Am ρ σ = some (.next,ρ',σ'):=by rw [C3 h];rfl
noncomputable def M3:XT:=(DM (xTr (Ai (AF .Is) (Ai AE (Aa 1) (Aa 4)) (xD .none))) (DM (xTr (Ai (AF .Gt) (Ai AE (Ai AE (Aa 1) (Aa 4)) (xD (.int 0))) (Av (A8 (Aa 3) Af) BW))) E1))
noncomputable def fdA:XS:=(Al (DJ [2,3] (A8 (xFz (Ai AH (xFz (Ai AH (Aa 2) (Aa 3))) (AJ (A8 (Ai AE (Aa 0) (Aa 4)) Af)))) (A8 (AJ Af) Af))) Am)
noncomputable def Ny:XS:=(AO (xTr (Ai (AF .NotEq) (Ai AE (Ai AE (Aa 1) (Aa 4)) (xD (.int 1))) (xD (.int 1)))) (Al (DJ [2,3] (A8 (xFz (Ai AH (Aa 2) (Aa 3))) (A8 (AJ Af) Af))) Am) Am)
theorem Sy:G5=(Al (AO M3 fdA (Al (Bm 5 (Ai J2 (Av (A8 (Aa 3) Af) BW) (Ai AE (Ai AE (Aa 1) (Aa 4)) (xD (.int 0))))) (Al (Bm 6 (Ai AH (Ai AH (xD (.str s!"(")) (xMt (Hp Di) (xD (.str s!" ")) (A8 (xFz (Ai AH (AJ (A8 (Ai AE (Aa 0) (Aa 4)) Af)) (xSl true (Aa 3) (Aa 5) (xD .none)))) Af))) (xD (.str s!")")))) (Al (Bm 3 (xFz (Ai AH (xSl true (Aa 3) (xD .none) (Aa 5)) (AJ (A8 (Aa 6) Af))))) (Al Ny Am))))) Am):=rfl
section
variable {TX CN I:AV} {R V V1 V2 R' V':List D} {x5 x6:Option AV}{t j u w:Str}{σ σ':Sto}{c q n m:Int}{ρ:Lo}
noncomputable abbrev fdR (TX CN:AV) (R V:List D) (I:AV) (x5 x6:Option AV):Lo:=[some TX,some CN,some (.d (.lst R)),some (.d (.lst V)),some I,x5,x6]
theorem fd_c0 (hC:∀ σ,AE CN I σ = some (.d .none,σ)):M3 (fdR TX CN R V I x5 x6) σ = some (true,σ):=by
  unfold M3;erw [hC _]
theorem fd_c {b:Bool}(hC:∀ σ,AE CN I σ = some (.d (.tup [.int c,.int q]),σ))(ln:∀ σ,BW [.d (.lst V)] σ = some (.d (.int n),σ))(hd:decide (n < c)=b):M3 (fdR TX CN R V I x5 x6) σ = some (b,σ):=by
  have g:AF .Gt (.d (.int c)) (.d (.int n)) σ = some (.d (.bool b),σ):=by rw [p_gt,hd]
  unfold M3;cases b <;> erw [hC _,ln _,g,XW]
theorem A1u (hT:∀ σ,AE TX I σ = some (.d (.str t),σ)) (z1:R.length+V.length≤16777216) (z2:(R++V).length + [D.str t].length≤16777216)(e:(R++V)++[D.str t]=R') :
    fdA (fdR TX CN R V I x5 x6) σ = some (.next,fdR TX CN R' [] I x5 x6,(σ ++ [.dead])++[.dead]):=by
  subst e;unfold fdA;erw [hT _,@LV,z1,z2,← ⟨(by decide:(2:Nat)≤sizeLine),rfl⟩,← (by decide:(0:Nat)≤sizeLine),← (by decide:(1:Nat)≤sizeLine)]
theorem fd_y (hc:M3 (fdR TX CN R V I x5 x6) σ = some (true,σ))(hf:fdA (fdR TX CN R V I x5 x6) σ = some (.next,ρ,σ')):G5 (fdR TX CN R V I x5 x6) σ = some (.next,ρ,σ'):=by
  rw [Sy];erw [← hc,← hf]
theorem fd_n (hc:M3 (fdR TX CN R V I x5 x6) σ = some (false,σ))(hT:∀ σ,AE TX I σ = some (.d (.str t),σ))(hC:∀ σ,AE CN I σ = some (.d (.tup [.int c,.int q]),σ))(ln:∀ σ,BW [.d (.lst V)] σ = some (.d (.int n),σ))(hm:n - c=m)
    (s1:∀ σ,Ie true (.d (.lst V)) (.d (.int m)) (.d .none) σ = some (.d (.lst V2),σ)) (z1:[D.str t].length+V2.length≤16777216) (jn:∀ σ,Di [.d (.str s!" "),.d (.lst ([D.str t]++V2))] σ = some (.d (.str j),σ)) (a1:∀ σ,AH (.d (.str s!"(")) (.d (.str j)) σ = some (.d (.str u),σ)) (a2:∀ σ,AH (.d (.str u)) (.d (.str s!")")) σ = some (.d (.str w),σ))
    (s2:∀ σ,Ie true (.d (.lst V)) (.d .none) (.d (.int m)) σ = some (.d (.lst V1),σ)) (z2:V1.length + [D.str w].length≤16777216) (e:V1++[D.str w]=V') (K:Ny (fdR TX CN R V' I (some (.d (.int m))) (some (.d (.str w)))) ((σ ++ [.dead])++[.dead])=some (.next,ρ,σ')):G5 (fdR TX CN R V I x5 x6) σ = some (.next,ρ,σ'):=by
  subst e;have sb:∀ σ,J2 (.d (.int n)) (.d (.int c)) σ = some (.d (.int m),σ):=fun σ=>by rw [A2r,hm]
  rw [Sy];erw [hT _,hC _,ln _,sb _,s1 _,s2 _,jn _,a1 _,a2 _,XW,@LV,z1,z2,← hc,← K,← (by decide:(1:Nat)≤sizeLine)]
theorem fd_l1 (hC:∀ σ,AE CN I σ = some (.d (.tup [.int c,.int 1]),σ)):Ny (fdR TX CN R V I x5 x6) σ = some (.next,fdR TX CN R V I x5 x6,σ):=by
  have g:AF .NotEq (.d (.int 1)) (.d (.int 1)) σ = some (.d (.bool false),σ):=rfl;unfold Ny;erw [hC _,g,Ut]
theorem fd_l2 (hC:∀ σ,AE CN I σ = some (.d (.tup [.int c,.int q]),σ))(hq:q≠1)(z:R.length+V.length≤16777216)(e:R++V=R'):Ny (fdR TX CN R V I x5 x6) σ = some (.next,fdR TX CN R' [] I x5 x6,σ ++ [.dead]):=by
  subst e;have g:AF .NotEq (.d (.int q)) (.d (.int 1)) σ = some (.d (.bool true),σ):=by rw [p_nei,decide_eq_false hq];rfl
  unfold Ny;erw [hC _,g,Ut,@LV,z,← ⟨(by decide:(2:Nat)≤sizeLine),rfl⟩,← (by decide:(0:Nat)≤sizeLine)]
end
noncomputable def A4B (TX CN:List D)(i:Nat)(rows vals:List Str) (x5 x6:Option AV)(σ:Sto)(st:FS):Prop:=
  ∃ x5' x6' σ',G5 [some (.d (.lst TX)),some (.d (.lst CN)),some (.d (.lst (rows.map sD))),some (.d (.lst (vals.map sD))),some (.d (.int (i:Int))),x5,x6] σ = some (.next,[some (.d (.lst TX)),some (.d (.lst CN)),some (.d (.lst (st.1.map sD))),some (.d (.lst (st.2.map sD))),some (.d (.int (i:Int))),x5',x6'],σ')
theorem VN {TX CN:List D}{i:Nat}{t:Str}{cn:Option (Nat×Nat)}(hT:∀ σ,AE (.d (.lst TX)) (.d (.int (i:Int))) σ = some (.d (.str t),σ))(hC:∀ σ,AE (.d (.lst CN)) (.d (.int (i:Int))) σ = some (.d (cnD cn),σ))(ht:t.length≤60)
    (rows vals:List Str)(hz:wsz rows+wsz vals≤10000) (x5 x6:Option AV)(σ:Sto) :
    A4B TX CN i rows vals x5 x6 σ (AZ (rows,vals) (t,cn)):=by
  have hvl:=DI vals;have hrl:=DI rows;have hL:∀ σ,BW [.d (.lst (vals.map sD))] σ = some (.d (.int (vals.length:Int)),σ):=fun σ=>by
    show (if ((vals.map sD).map AV.d).length≤sizeLine then some (AV.d (.int (((vals.map sD).map AV.d).length:Int)),σ) else none)=_;rw [List.length_map,List.length_map,sizeLine_eq,if_pos (by omega)]
  have flush:=fun hc=>(⟨x5,x6,_,fd_y hc (A1u (R':=(rows++vals++[t]).map sD) hT (by rw [List.length_map,List.length_map];omega) (by rw [List.length_append,List.length_map,List.length_map];show _+1≤_;omega) (by simp))⟩:A4B TX CN i rows vals x5 x6 σ (rows++vals++[t],[]));cases cn with
  | none=>exact flush (fd_c0 hC)
  | some cq =>
    obtain (⟨c,q⟩):=cq
    by_cases hlt:vals.length < c
    · have hf:AZ (rows,vals) (t,some (c,q))=(rows++vals++[t],[]):=by unfold AZ;simp only [if_pos hlt]
      rw [hf];exact flush (fd_c hC hL (decide_eq_true (by omega)))
    · have hwz:=Ib vals (vals.length - c)
      have hw:wsz (t::vals.drop (vals.length - c))≤100000:=by rw [CQ];omega
      have hjl:=OX hw;have tl:(vals.take (vals.length - c)).length≤vals.length:=by rw [List.length_take];omega
      have hsub:((vals.length:Nat):Int) - (c:Int)=((vals.length - c:Nat):Int):=by omega
      have jn:∀ σ,Di [.d (.str s!" "),.d (.lst ([.str t]++(vals.drop (vals.length - c)).map sD))] σ = some (.d (.str (Txt.join s!" " (t::vals.drop (vals.length - c)))),σ):=fun σ=>by
        show (Ga (([D.str t]++(vals.drop (vals.length - c)).map sD).map AV.d)).bind _=_;have:([D.str t]++(vals.drop (vals.length - c)).map sD).map AV.d=(t::vals.drop (vals.length - c)).map fun x=>.d (.str x):=by rw [List.map_append,List.map_map];rfl
        rw [this,Iw,Option.bind_some,if_pos (U8 t _ hw)]
      have N:=fun {ρ σ'}=>fd_n (R:=rows.map sD) (x5:=x5) (x6:=x6) (ρ:=ρ) (σ':=σ') (V':=(vals.take (vals.length - c)++[GI t (vals.drop (vals.length - c))]).map sD) (fd_c (σ:=σ) hC hL (decide_eq_false (by omega))) hT hC hL hsub (A2G (vals.length - c) (by omega) (by omega)) (by rw [List.length_map,List.length_drop];show 1 + _≤_;omega) jn (fun σ=>A0V (Nat.le_trans hjl (by decide))) (fun σ=>A0W (by rw [BA];show 1 + _≤_;omega)) (A7z (vals.length - c) (by omega) (by omega)) (by rw [List.length_map];show _+1≤_;omega) (by rw [List.map_append];rfl)
      by_cases hq:q=1
      · subst hq
        have hf:AZ (rows,vals) (t,some (c,1))=(rows,vals.take (vals.length - c)++[GI t (vals.drop (vals.length - c))]):=by unfold AZ;simp only [if_neg hlt,if_true]
        rw [hf];exact ⟨_,_,_,N (fd_l1 hC)⟩
      · have hf:AZ (rows,vals) (t,some (c,q))=(rows++vals.take (vals.length - c)++[GI t (vals.drop (vals.length - c))],[]):=by
          unfold AZ;simp only [if_neg hlt,if_neg hq]
        rw [hf];exact ⟨_,_,_,N (fd_l2 hC (by omega) (by rw [List.length_map,List.length_map,List.length_append];show _+(_+1)≤_;omega) (by simp))⟩
noncomputable abbrev fdL (TX CN:List D) (st:FS) (x4 x5 x6:Option AV):Lo:=[some (.d (.lst TX)),some (.d (.lst CN)),some (.d (.lst (st.1.map sD))),some (.d (.lst (st.2.map sD))),x4,x5,x6]
theorem A6r {tcs:List TC}(hl:tcs.length≤100)(hz:∀ p∈tcs,p.1.length≤60)(ts:List TC):∀ {i:Nat} {st:FS} {x4 x5 x6:Option AV} {σ:Sto},tcs.drop i=ts→i+ts.length=tcs.length→wsz st.1+wsz st.2+63 * ts.length≤9000 →
    ∃ x4' x5' x6' σ',Kr (BN 4) G5 ((List.range' i ts.length).map fun (i:Nat)=>AV.d (.int (i:Int))) (fdL (tcs.map fun p=>sD p.1) (tcs.map fun p=>cnD p.2) st x4 x5 x6) σ = some (.next,fdL (tcs.map fun p=>sD p.1) (tcs.map fun p=>cnD p.2) (ts.foldl AZ st) x4' x5' x6',σ')∧wsz (ts.foldl AZ st).1+wsz (ts.foldl AZ st).2≤9000:=by
  induction ts with
  | nil=>exact fun {i st x4 x5 x6 σ} ξ ξ h=>⟨x4,x5,x6,σ,rfl,h⟩
  | cons p ts ih =>
    intro i st x4 x5 x6 σ h2 h3 hw;rw [List.length_cons] at h3 hw;have hp:tcs[i]? = some p:=by
      have:=congrArg (·[0]?) h2
      simpa using this
    have hp1:=hz p (List.mem_of_getElem? hp);obtain ⟨x5',x6',σ',e⟩:=VN (i:=i) (t:=p.1) (cn:=p.2) (TX:=tcs.map fun p=>sD p.1) (CN:=tcs.map fun p=>cnD p.2) (MH (by rw [List.getElem?_map,hp];rfl) (by omega)) (MH (by rw [List.getElem?_map,hp];rfl) (by omega)) hp1 st.1 st.2 (by omega) x5 x6 σ;have hw':=Nz st p hp1;have h4:=congrArg List.tail h2;rw [List.tail_drop] at h4;obtain ⟨x4',y5,y6,σ'',e',hw2⟩:=@ih (i+1) (AZ st p) (some (.d (.int (i:Int)))) x5' x6' σ' h4 (by omega) (by omega);exact ⟨x4',y5,y6,σ'',YI e e',hw2⟩
theorem A6q {TX CN:List D}{R V:List D}{n:Int} {x4 x5 x6:Option AV}{σ':Sto}(hL:BW [.d (.lst TX)] []=some (.d (.int n),[]))(hf:DL (Ic (Av (A8 (Aa 0) Af) BW)) (BN 4) G5 [some (.d (.lst TX)),some (.d (.lst CN)),some (.d (.lst [])),some (.d (.lst [])),none,none,none] []=some (.next,[some (.d (.lst TX)),some (.d (.lst CN)),some (.d (.lst R)),some (.d (.lst V)),x4,x5,x6],σ'))(hz:R.length+V.length≤16777216) :
    ∃ ρ' σ',GX [some (.d (.lst TX)),some (.d (.lst CN)),none,none,none,none,none] []=some (.ret (.d (.lst (R++V))),ρ',σ'):=by
  refine ⟨[some (.d (.lst TX)),some (.d (.lst CN)),some (.d (.lst R)),some (.d (.lst V)),x4,x5,x6],σ'++[.dead],?_⟩;show Al _ (Al (DL _ _ G5) _) _ _=_;erw [@LV,hz,← hf,← ⟨(by decide:(2:Nat)≤sizeLine),rfl⟩,← (by decide:(0:Nat)≤sizeLine)]
theorem ZK {tcs:List TC}(hn:tcs.length≤100)(hz:∀ p∈tcs,p.1.length≤60)(σ:Sto) :
    Ef [.d (.lst (tcs.map fun p=>sD p.1)),.d (.lst (tcs.map fun p=>cnD p.2))] σ = some (.d (.lst (((tcs.foldl AZ ([],[])).1++(tcs.foldl AZ ([],[])).2).map sD)),σ):=by
  refine Fe [.lst (tcs.map fun p=>sD p.1),.lst (tcs.map fun p=>cnD p.2)] rfl ?_ σ;have hL:BW [.d (.lst (tcs.map fun p=>sD p.1))] []=some (.d (.int (tcs.length:Int)),[]):=by
    show (if ((tcs.map fun p=>sD p.1).map AV.d).length≤sizeLine then some (AV.d (.int (((tcs.map fun p=>sD p.1).map AV.d).length:Int)),([]:Sto)) else none)=_;rw [List.length_map,List.length_map,sizeLine_eq,if_pos (by omega)]
  obtain ⟨x4,x5,x6,σ',e,hw⟩:=A6r hn hz tcs (i:=0) (st:=([],[])) (x4:=none) (x5:=none) (x6:=none) (σ:=[]) rfl (Nat.zero_add _) (by show 0+0 + _≤_;omega);have hr:Ic (Av (A8 (Aa 0) Af) BW) (fdL (tcs.map fun p=>sD p.1) (tcs.map fun p=>cnD p.2) ([],[]) none none none) []=some (HJ ((tcs.length:Nat):Int),[]):=Wo (Fw (rfl:Aa 0 _ _=some (.d (.lst (tcs.map fun p=>sD p.1)),_)) hL) (by omega) (by omega);have hf:=MG (asg:=BN 4) (body:=G5) hr (Wv tcs.length) (by rw [List.length_map,List.length_range];omega);rw [List.range_eq_range',e] at hf;generalize tcs.foldl AZ ([],[])=st at hf hw ⊢;have a1:=DI st.1;have a2:=DI st.2;rw [List.map_append];exact A6q hL hf (by rw [List.length_map,List.length_map];omega)
noncomputable abbrev Stk:=List (List Str×List Str)
noncomputable def Ht (w:Str):Bool:=w.cps.all (· < 0x110000)
noncomputable def A2b:Stk→Option Stk
  | (w0::ws,A)::(W',A')::rest'=>if K9 w0=true then some ((W'++[opn++Str.join spc (w0::ws)++Do],A')::rest') else if Ht w0=true then some ((W',A'++(A++[Str.join spc (w0::ws)]))::rest') else none
  | _=>none
noncomputable def A4X:Stk→Option Stk
  | p::rest=>some (([],[])::p::rest)
  | []=>none
noncomputable def A4Y (tok:Str):Stk→Option Stk
  | (W,A)::rest=>some ((W++[tok],A)::rest)
  | []=>none
noncomputable def CM (tok:Str)(s:Stk):Option Stk:=if tok=opn then A4X s else if tok=Do then A2b s else A4Y tok s
noncomputable def Gs:List Str→Stk→Option Stk
  | [],s=>some s
  | t::r,s=>(CM t s).bind (Gs r)
theorem MM:∀ (a b:List Str)(s:Stk),Gs (a++b) s=(Gs a s).bind (Gs b)
  | [],_,_=>rfl
  | t::a,b,s=>by
    show (CM t s).bind (Gs (a++b))=((CM t s).bind (Gs a)).bind (Gs b);cases CM t s with
    | none=>rfl
    | some s'=>exact MM a b s'
theorem Wc {w:Str}(h:GE w=false):w≠opn∧w≠Do:=by
  unfold GE at h;rw [Bool.or_eq_false_iff] at h;exact ⟨of_decide_eq_false h.1,of_decide_eq_false h.2⟩
theorem ES {w:Str}(h:GE w=false)(W A:List Str)(rest:Stk):CM w ((W,A)::rest)=some ((W++[w],A)::rest):=by
  obtain ⟨h1,h2⟩:=Wc h;unfold CM;rw [if_neg h1,if_neg h2];rfl
theorem NH (W A:List Str)(rest:Stk):CM opn ((W,A)::rest)=some (([],[])::(W,A)::rest):=by
  unfold CM;rw [if_pos rfl];rfl
theorem XV:¬ (Do=opn):=by decide
theorem A2d {w0:Str}(h:K9 w0=true)(ws A W' A':List Str)(rest:Stk):CM Do ((w0::ws,A)::(W',A')::rest)=some ((W'++[opn++Str.join spc (w0::ws)++Do],A')::rest):=by
  unfold CM;rw [if_neg XV,if_pos rfl];exact if_pos h
theorem A2c {w0:Str}(h:K9 w0=false)(hc:Ht w0=true)(ws A W' A':List Str)(rest:Stk):CM Do ((w0::ws,A)::(W',A')::rest)=some ((W',A'++(A++[Str.join spc (w0::ws)]))::rest):=by
  unfold CM;rw [if_neg XV,if_pos rfl];exact (if_neg (by rw [h];exact Bool.false_ne_true)).trans (if_pos hc)
theorem A7F {w:Str}(h:K9 w=true):GE w=false:=by
  unfold K9 at h;rw [Bool.or_eq_true,decide_eq_true_eq,decide_eq_true_eq] at h;rcases h with rfl | rfl <;> decide +kernel
set_option tactic.hygienic true in
theorem Kt:∀ (toks ws W A:List Str)(rest:Stk),FC toks=some ws→Gs toks ((W,A)::rest)=some ((W++ws,A)::rest)
  | [],ws,W,A,rest,h=>by cases h;simp [Gs]
  | [w],ws,W,A,rest,h=>by
    unfold FC at h;split at h
    · cases h
    · rename_i hp
      have hp:GE w=false:=by simpa using hp
      simp only [FC,Option.map_some,Option.some.injEq] at h;subst h;simp only [Gs,ES hp,Option.bind_some]
  | [w,w1],ws,W,A,rest,h=>by
    unfold FC at h;split at h
    · cases h
    · rename_i hp
      have hp:GE w=false:=by simpa using hp
      obtain ⟨ws',h',rfl⟩:=Bx h;show (CM w ((W,A)::rest)).bind (Gs [w1])=_;rw [ES hp,Option.bind_some,Kt [w1] ws' (W++[w]) A rest h'];simp
  | [w,w1,w2],ws,W,A,rest,h=>by
    unfold FC at h;split at h
    · cases h
    · rename_i hp
      have hp:GE w=false:=by simpa using hp
      obtain ⟨ws',h',rfl⟩:=Bx h;show (CM w ((W,A)::rest)).bind (Gs [w1,w2])=_;rw [ES hp,Option.bind_some,Kt [w1,w2] ws' (W++[w]) A rest h'];simp
  | w::w1::w2::w3::r,ws,W,A,rest,h=>by
    unfold FC at h;split at h
    · split at h
      · rename_i hp hc
        simp only [Bool.and_eq_true,decide_eq_true_eq,Bool.not_eq_true'] at hc;obtain ⟨⟨⟨rfl,h1⟩,h2⟩,rfl⟩:=hc;obtain ⟨ws',h',rfl⟩:=Bx h;have p1:=A7F h1;show (CM opn ((W,A)::rest)).bind (Gs (w1::w2::Do::r))=_;have a1:=NH W A rest;rw [a1,Option.bind_some];show (CM w1 _).bind (Gs (w2::Do::r))=_;rw [ES p1,Option.bind_some];show (CM w2 _).bind (Gs (Do::r))=_;rw [ES h2,Option.bind_some];show (CM Do _).bind (Gs r)=_;have a2:CM Do (([]++[w1]++[w2],[])::(W,A)::rest)=some ((W++[grp w1 w2],A)::rest):=A2d h1 [w2] [] W A rest;rw [a2,Option.bind_some,Kt r ws' (W++[grp w1 w2]) A rest h'];simp
      · cases h
    · rename_i hp
      have hp:GE w=false:=by simpa using hp
      obtain ⟨ws',h',rfl⟩:=Bx h;show (CM w ((W,A)::rest)).bind (Gs (w1::w2::w3::r))=_;rw [ES hp,Option.bind_some,Kt (w1::w2::w3::r) ws' (W++[w]) A rest h'];simp
noncomputable def Wh (s:Str)(l:List Str):Prop:=∀ (W A:List Str)(rest:Stk),Gs (tk s) ((W,A)::rest)=some ((W,A++l)::rest)
theorem Z9:∀ {args:List Str}{ls:List (List Str)},B1 Wh args ls→∀ (W A:List Str)(rest:Stk),Gs (args.map tk).flatten ((W,A)::rest)=some ((W,A++ls.flatten)::rest)
  | _,_,.nil,W,A,rest=>by simp [Gs]
  | _,_,.cons h r,W,A,rest=>by
    rw [List.map_cons,List.flatten_cons,MM,h,Option.bind_some,Z9 r,List.flatten_cons,List.append_assoc]
set_option tactic.hygienic true in
theorem A3Z {t:Str}(h:good t=true):∃ w0 ws,FC (tk t)=some (w0::ws)∧Str.join spc (w0::ws)=t∧K9 w0=false∧Ht w0=true:=by
  unfold good at h;simp only [Bool.and_eq_true] at h;have h1:=h.1.1.1;split at h1
  · rename_i w0 ws e
    simp only [Bool.and_eq_true,decide_eq_true_eq,Bool.not_eq_true'] at h1;exact ⟨w0,ws,e,h1.1.1.1,h1.1.1.2,h1.1.2⟩
  · cases h1
theorem U3 {t:Str}(h:good t=true):Ht t=true:=by
  unfold good at h;simp only [Bool.and_eq_true] at h;have h1:=h.1.1.1;split at h1
  · simp only [Bool.and_eq_true] at h1
    exact h1.2
  · cases h1
theorem N7 (t:Str)(args:List Str):GI t args=opn++Str.join spc (t::args)++Do:=by
  unfold GI;rw [e32,e40,e41,Iy]
theorem A2S {t:Str}(h:good t=true){args:List Str}{ls:List (List Str)}(ha:B1 Wh args ls):Wh (GI t args) (ls.flatten++[t]):=by
  intro W A rest;obtain ⟨w0,ws,e1,e2,e3,e4⟩:=A3Z h;rw [N7,A7D,Z7,List.map_cons,List.flatten_cons];show (CM opn ((W,A)::rest)).bind (Gs _)=_;have a1:=NH W A rest;rw [a1,Option.bind_some,MM,MM,Kt _ _ [] [] _ e1,Option.bind_some,Z9 ha,Option.bind_some];show (CM Do (([]++(w0::ws),[]++ls.flatten)::(W,A)::rest)).bind (Gs [])=_;have a2:CM Do (([]++(w0::ws),[]++ls.flatten)::(W,A)::rest)=some ((W,A++(([]++ls.flatten)++[Str.join spc (w0::ws)]))::rest):=A2c e3 e4 ws _ W A rest;rw [a2,e2];simp [Gs]
noncomputable def swt:Stk→Nat
  | []=>0
  | (W,A)::r=>wsz W+wsz A+1+swt r
theorem Qd {w0:Str}{ws:List Str}:(Str.join spc (w0::ws)).length+1=wsz (w0::ws):=MK w0 ws
set_option tactic.hygienic true in
theorem ZZ {tok:Str}{s s':Stk}(h:CM tok s=some s'):swt s'≤swt s+tok.length+3:=by
  unfold CM at h;split at h
  · unfold A4X at h
    split at h
    · cases h
      show (0:Nat)+0+1+swt _≤_;omega
    · cases h
  · split at h
    · unfold A2b at h
      split at h
      · rename_i w0 ws A W' A' rest'
        have hj:=@Qd w0 ws;split at h
        · cases h
          show wsz (W'++[_])+wsz A' + 1+swt rest'≤wsz (w0::ws)+wsz A+1+(wsz W' + wsz A' + 1+swt rest') + _+3;rw [Ee,CQ,BA,BA];show wsz W' + (1 + _+1+1+0)+wsz A' + 1+swt rest'≤_;omega
        · split at h
          · cases h
            show wsz W' + wsz (A'++(A++[_]))+1+swt rest'≤wsz (w0::ws)+wsz A+1+(wsz W' + wsz A' + 1+swt rest') + _+3;rw [Ee,Ee,CQ];show wsz W' + (wsz A' + (wsz A+(_+1+0)))+1+swt rest'≤_;omega
          · cases h
      · cases h
    · unfold A4Y at h
      split at h
      · cases h
        rename_i W A rest;show wsz (W++[tok])+wsz A+1+swt rest≤wsz W+wsz A+1+swt rest + _+3;rw [Ee,CQ];show wsz W+(_+1+0)+wsz A+1+swt rest≤_;omega
      · cases h
noncomputable abbrev sL (l:List Str):List AV:=l.map fun x=>AV.d (.str x)
noncomputable def Nb (σ:Sto)(n:Nat)(p:List Str×List Str):Prop:=σ[n]? = some (.list (sL p.1))∧σ[n+1]? = some (.list (sL p.2))∧σ[n+2]? = some (.list [.loc n,.loc (n+1)])
structure SI (wl:List AV) (σ:Sto) (ns:List Nat) (stk:Stk):Prop where
  hF:σ[3]? = some (.list (ns.reverse.map fun n=>AV.loc (n+2)))
  hW:σ[4]? = some (.list wl)
  fr:B1 (Nb σ) ns stk
  lo:∀ n∈ns,n=0∨5≤n
  gp:ns.Pairwise (fun a b=>b+3≤a)
theorem A6u {σ:Sto}{o:SO}{ns:List Nat}{stk:Stk}(h:B1 (Nb σ) ns stk):B1 (Nb (σ ++ [o])) ns stk:=h.mono fun ξ ξ h=>⟨CL h.1,CL h.2.1,CL h.2.2⟩
theorem U0 {σ:Sto}{o:SO}{p:Nat}{ns:List Nat}{stk:Stk}(hn:∀ n∈ns,p≠n∧p≠n+1∧p≠n+2)(h:B1 (Nb σ) ns stk):B1 (Nb (σ.set p o)) ns stk:=by
  induction h with
  | nil=>exact .nil
  | @cons n _ _ _ h _ ih =>
    have k:=hn n (.head _);exact .cons ⟨(AW k.1).trans h.1,(AW k.2.1).trans h.2.1,(AW k.2.2).trans h.2.2⟩ (ih fun n hm=>hn n (.tail _ hm))
section
variable {wl:List AV}{σ:Sto}{ns:List Nat}{stk:Stk}
theorem SI.app (h:SI wl σ ns stk)(o:SO):SI wl (σ ++ [o]) ns stk:=⟨CL h.hF,CL h.hW,A6u h.fr,h.lo,h.gp⟩
theorem SI.len (h:SI wl σ ns stk):5≤σ.length:=GY h.hW
theorem SI.setW {n:Nat}{W A W₂:List Str}(h:SI wl σ (n::ns) ((W,A)::stk)):SI wl (σ.set n (.list (sL W₂))) (n::ns) ((W₂,A)::stk):=by
  have hl:=h.lo n (.head _);have hp:=List.pairwise_cons.mp h.gp;obtain ⟨⟨h1,h2,h3⟩,r⟩:Nb σ n (W,A)∧B1 (Nb σ) ns stk:=by cases h.fr with | cons a b=>exact ⟨a,b⟩
  refine ⟨by rw [AW (by omega)];exact h.hF,by rw [AW (by omega)];exact h.hW,.cons ⟨Fg h1,by rw [AW (by omega)];exact h2,by rw [AW (by omega)];exact h3⟩ (U0 (fun m hm=>?_) r),h.lo,h.gp⟩;have:=hp.1 m hm;omega
theorem SI.setA {n:Nat}{W A A₂:List Str}(h:SI wl σ (n::ns) ((W,A)::stk)):SI wl (σ.set (n+1) (.list (sL A₂))) (n::ns) ((W,A₂)::stk):=by
  have hl:=h.lo n (.head _);have hp:=List.pairwise_cons.mp h.gp;obtain ⟨⟨h1,h2,h3⟩,r⟩:Nb σ n (W,A)∧B1 (Nb σ) ns stk:=by cases h.fr with | cons a b=>exact ⟨a,b⟩
  refine ⟨by rw [AW (by omega)];exact h.hF,by rw [AW (by omega)];exact h.hW,.cons ⟨by rw [AW (by omega)];exact h1,Fg h2,by rw [AW (by omega)];exact h3⟩ (U0 (fun m hm=>?_) r),h.lo,h.gp⟩;have:=hp.1 m hm;omega
theorem SI.pop {n:Nat}{p:List Str×List Str}(h:SI wl σ (n::ns) (p::stk)):SI wl (σ.set 3 (.list (ns.reverse.map fun n=>AV.loc (n+2)))) ns stk:=by
  have hp:=List.pairwise_cons.mp h.gp;have r:B1 (Nb σ) ns stk:=by cases h.fr with | cons a b=>exact b
  refine ⟨Fg h.hF,by rw [AW (by decide)];exact h.hW,U0 (fun m hm=>?_) r,fun m hm=>h.lo m (.tail _ hm),hp.2⟩;have:=h.lo m (.tail _ hm);omega
theorem SI.lt (h:SI wl σ ns stk):∀ n∈ns,n+2 < σ.length:=by
  intro n hn;have key:∀ {ns:List Nat} {stk:Stk},B1 (Nb σ) ns stk→∀ n∈ns,n+2 < σ.length:=by
    intro ns stk h
    induction h with
    | nil=>intro n hn;cases hn
    | cons a r ih =>
      intro n hn;rcases List.mem_cons.mp hn with rfl | hn
      · exact GY a.2.2
      · exact ih n hn
  exact key h.fr n hn
theorem SI.push (h:SI wl σ ns stk):SI wl ((((σ ++ [SO.list []])++[SO.list []])++[SO.list [.loc σ.length,.loc (σ.length+1)]]).set 3 (SO.list (((σ.length::ns)).reverse.map fun n=>AV.loc (n+2)))) (σ.length::ns) (([],[])::stk):=by
  have hl:=h.len;have hlt:=h.lt;have h':=((h.app (.list [])).app (.list [])).app (.list [.loc σ.length,.loc (σ.length+1)]);have e0:(((σ ++ [SO.list []])++[SO.list []])++[SO.list [.loc σ.length,.loc (σ.length+1)]])[σ.length]? = some (.list []):=CL (CL Dp);have e1:(((σ ++ [SO.list []])++[SO.list []])++[SO.list [.loc σ.length,.loc (σ.length+1)]])[σ.length+1]? = some (.list []):=by
    have:((σ ++ [SO.list []])++[SO.list []])[σ.length+1]? = some (.list []):=by
      have:=Dp (σ:=σ ++ [SO.list []]) (o:=SO.list []);rw [List.length_append] at this;exact this
    exact CL this
  have e2:(((σ ++ [SO.list []])++[SO.list []])++[SO.list [.loc σ.length,.loc (σ.length+1)]])[σ.length+2]? = some (.list [.loc σ.length,.loc (σ.length+1)]):=by
    have:=Dp (σ:=(σ ++ [SO.list []])++[SO.list []]) (o:=SO.list [.loc σ.length,.loc (σ.length+1)]);rw [List.length_append,List.length_append] at this;exact this
  refine ⟨Fg h'.hF,by rw [AW (by decide)];exact h'.hW,.cons ⟨by rw [AW (by omega)];exact e0,by rw [AW (by omega)];exact e1,by rw [AW (by omega)];exact e2⟩ (U0 (fun m hm=>?_) h'.fr),?_,List.pairwise_cons.mpr ⟨fun m hm=>?_,h.gp⟩⟩
  · have:=h.lo m hm;omega
  · intro m hm
    rcases List.mem_cons.mp hm with rfl | hm
    · exact .inr hl
    · exact h.lo m hm
  · have:=hlt m hm;omega
end
theorem UN:∀ stk:Stk,stk.length≤swt stk
  | []=>Nat.le_refl _
  | (W,A)::r=>by
    have:=UN r;show r.length+1≤wsz W+wsz A+1+swt r;omega
noncomputable def Du:XS:=(Al (AO (xTr (Ai (AF .Eq) (Aa 2) (xD (.str s!"(")))) (Al (xSt (xMt (CR Hx) (Aa 1) (A8 (BX (A8 (BX Af) (A8 (BX Af) Af))) Af))) Am) (Al (AO (xTr (Ai (AF .Eq) (Aa 2) (xD (.str s!")")))) (Al (WI [3,4] (xMt (CR Yn) (Aa 1) Af)) (Al (AO (xTr (Ai (AF .In) (Ai AE (Aa 3) (xD (.int 0))) (B2 (A8 (xD (.str s!"type")) (A8 (xD (.str s!"result")) Af))))) (Al (xSt (xMt (CR Hx) (Ai AE (Ai AE (Aa 1) (ED (xD (.int 1)))) (xD (.int 0))) (A8 (Ai AH (Ai AH (xD (.str s!"(")) (xMt (Hp Di) (xD (.str s!" ")) (A8 (Aa 3) Af))) (xD (.str s!")"))) Af))) Am) (Al (xSt (xMt (CR Hq) (Ai AE (Ai AE (Aa 1) (ED (xD (.int 1)))) (xD (.int 1))) (A8 (Ai AH (Aa 4) (BX (A8 (xMt (Hp Di) (xD (.str s!" ")) (A8 (Aa 3) Af)) Af))) Af))) Am)) Am)) (Al (xSt (xMt (CR Hx) (Ai AE (Ai AE (Aa 1) (ED (xD (.int 1)))) (xD (.int 0))) (A8 (Aa 2) Af))) Am)) Am)) Am)
section
variable {wl:List AV}{σ:Sto}{ns:List Nat}{stk:Stk}
theorem Q7 {l:List AV}{x:AV}{n:Nat}(h:σ[n]? = some (.list (l++[x]))):AE (.loc n) (.d (.int (-1))) σ = some (x,σ):=by
  rw [A1J];have e:AU σ (.loc n)=some (l++[x]):=by simp only [AU,h]
  rw [if_pos (by decide),e,Option.bind_some,StrLaws.seqIndex_neg (by decide) (by simp only [List.length_append,List.length_singleton];omega),Option.bind_some];have e2:((-1:Int)+((l++[x]).length:Int)).toNat=l.length:=by simp only [List.length_append,List.length_singleton];omega
  rw [e2,List.getElem?_append_right (Nat.le_refl _),Nat.sub_self];rfl
theorem VQ {l:List AV}{x:AV}{n:Nat}(h:σ[n]? = some (.list (x::l))):AE (.loc n) (.d (.int 0)) σ = some (x,σ):=by
  rw [A1J];have e:AU σ (.loc n)=some (x::l):=by simp only [AU,h]
  rw [if_pos (by decide),e,Option.bind_some,StrLaws.seqIndex_nonneg (by decide) (by simp only [List.length_cons];omega),Option.bind_some];rfl
theorem A4V {l:List AV}{x y:AV}{n:Nat}(h:σ[n]? = some (.list (x::y::l))):AE (.loc n) (.d (.int 1)) σ = some (y,σ):=by
  rw [A1J];have e:AU σ (.loc n)=some (x::y::l):=by simp only [AU,h]
  rw [if_pos (by decide),e,Option.bind_some,StrLaws.seqIndex_nonneg (by decide) (by simp only [List.length_cons];omega),Option.bind_some];rfl
theorem A4o {x:XE}{ρ:Lo}{σ σ':Sto}(h:x ρ σ = some (.d .none,σ')):Al (xSt x) Am ρ σ = some (.next,ρ,σ'):=by
  unfold Al xSt;rw [h];rfl
theorem A7f {y:XC}{xo:XE}{xs:XEs}{ρ:Lo}{σ σ₁ σ₂:Sto}{a:AV}{l:List AV}{args:List AV}{r:Option (AV×Sto)}(ho:xo ρ σ = some (a,σ₁))(hl:AU σ₁ a=some l)(hs:xs ρ σ₁ = some (args,σ₂))(hy:y (a::args) σ₂ = r):xMt (CR y) xo xs ρ σ = r:=by
  unfold xMt;rw [ho,Option.bind_some];dsimp only;unfold CR;rw [hl,Option.map_some,Option.bind_some,hs,Option.bind_some];exact hy
theorem mtS_eq {y:XC}{xo:XE}{xs:XEs}{ρ:Lo}{σ σ₁ σ₂:Sto}{x:Str}{args:List AV}{r:Option (AV×Sto)}(ho:xo ρ σ = some (.d (.str x),σ₁))(hs:xs ρ σ₁ = some (args,σ₂))(hy:y (.d (.str x)::args) σ₂ = r):xMt (Hp y) xo xs ρ σ = r:=by
  unfold xMt;rw [ho,Option.bind_some];show (Option.bind (some y) _)=_;rw [Option.bind_some,hs,Option.bind_some];exact hy
theorem A4N {x:XE}{ρ:Lo}{σ σ₁:Sto}{a:AV}(h:x ρ σ = some (a,σ₁)):A8 x Af ρ σ = some ([a],σ₁):=by
  unfold A8 Af;rw [h];rfl
theorem A1e {x y:XE}{ρ:Lo}{σ σ₁ σ₂:Sto}{a b:AV}(h:x ρ σ = some (a,σ₁))(k:y ρ σ₁ = some (b,σ₂)):A8 x (A8 y Af) ρ σ = some ([a,b],σ₂):=by
  unfold A8 Af;rw [h,Option.bind_some];dsimp only;rw [k];rfl
theorem A35 {xs:XEs}{ρ:Lo}{σ σ₁:Sto}{l:List AV}(h:xs ρ σ = some (l,σ₁))(hl:l.length≤16777216):BX xs ρ σ = some (.loc σ₁.length,σ₁ ++ [.list l]):=by
  unfold BX;rw [h,Option.bind_some];exact if_pos (by rw [sizeLine_eq];exact hl)
theorem A5Q {n:Nat}{l:List AV}{x:AV}(h:σ[n]? = some (.list l))(hl:l.length≤16777216):Hx [.loc n,x] σ = some (.d .none,σ.set n (.list (l++[x]))):=by
  exact e_app h (by rw [sizeLine_eq];exact hl) rfl
theorem asL {n:Nat}{l:List AV}(h:σ[n]? = some (.list l)):AU σ (.loc n)=some l:=by simp only [AU,h]
theorem NM (l:List Str):(sL l).length=l.length:=List.length_map ..
theorem A0w (tok:Str):tok=opn∨tok=Do∨GE tok=false:=by
  by_cases h1:tok=opn
  · exact .inl h1
  · by_cases h2:tok=Do
    · exact .inr (.inl h2)
    · refine .inr (.inr ?_)
      unfold GE;rw [decide_eq_false h1,decide_eq_false h2];rfl
end
theorem A3T {r0:AV} {x3 x4:Option AV}{σ:Sto}{L:List AV} (h0:σ[3]? = some (.list L)) (h3:(((σ ++ [SO.list []])++[SO.list []])++[SO.list [AV.loc σ.length,AV.loc (σ ++ [SO.list []]).length]])[3]? = some (.list L))(hl:L.length≤sizeLine) :
    Du [some r0,some (.loc 3),some (.d (.str opn)),x3,x4] σ = some (.next,[some r0,some (.loc 3),some (.d (.str opn)),x3,x4],(((σ ++ [SO.list []])++[SO.list []])++[SO.list [AV.loc σ.length,AV.loc (σ ++ [SO.list []]).length]]).set 3 (SO.list (L++[AV.loc ((σ ++ [SO.list []])++[SO.list []]).length]))):=by
  have g:AF .Eq (.d (.str opn)) (.d (.str s!"(")) σ = some (.d (.bool true),σ):=by rw [Qs];rw [decide_eq_true (by decide +kernel)]
  unfold Du;erw [g,h0,h3,hl,← (by decide:(0:Nat)≤sizeLine),← (by decide:(2:Nat)≤sizeLine)]
theorem A3U {r0:AV}{tok:Str} {x3 x4:Option AV}{σ:Sto}{k n:Nat}{V:List AV} (n1:tok≠s!"(") (n2:tok≠s!")")(gl:AE (.loc 3) (.d (.int (-1))) σ = some (.loc k,σ)) (g0:AE (.loc k) (.d (.int 0)) σ = some (.loc n,σ))(hn:σ[n]? = some (.list V))(hl:V.length≤sizeLine) :
    Du [some r0,some (.loc 3),some (.d (.str tok)),x3,x4] σ = some (.next,[some r0,some (.loc 3),some (.d (.str tok)),x3,x4],σ.set n (.list (V++[.d (.str tok)]))):=by
  have c1:AF .Eq (.d (.str tok)) (.d (.str s!"(")) σ = some (.d (.bool false),σ):=by rw [Qs,decide_eq_false n1]
  have c2:AF .Eq (.d (.str tok)) (.d (.str s!")")) σ = some (.d (.bool false),σ):=by rw [Qs,decide_eq_false n2]
  unfold Du;erw [c1,c2,gl,g0,hn,hl]
noncomputable def EY:XS:=(AO (xTr (Ai (AF .In) (Ai AE (Aa 3) (xD (.int 0))) (B2 (A8 (xD (.str s!"type")) (A8 (xD (.str s!"result")) Af))))) (Al (xSt (xMt (CR Hx) (Ai AE (Ai AE (Aa 1) (ED (xD (.int 1)))) (xD (.int 0))) (A8 (Ai AH (Ai AH (xD (.str s!"(")) (xMt (Hp Di) (xD (.str s!" ")) (A8 (Aa 3) Af))) (xD (.str s!")"))) Af))) Am) (Al (xSt (xMt (CR Hq) (Ai AE (Ai AE (Aa 1) (ED (xD (.int 1)))) (xD (.int 1))) (A8 (Ai AH (Aa 4) (BX (A8 (xMt (Hp Di) (xD (.str s!" ")) (A8 (Aa 3) Af)) Af))) Af))) Am))
section
variable {r0:AV} {x3 x4:Option AV}{σ σ₁ σ₂ σ₃:Sto}{L V:List AV} {k k2 n a m q:Nat} {w0 j u w:Str}{b:Bool}
noncomputable abbrev flR (r0:AV) (n a:Nat):Lo:=[some r0,some (.loc 3),some (.d (.str Do)),some (.loc n),some (.loc a)]
theorem A1w (h0:σ[3]? = some (.list L))(hp:Yn [.loc 3] σ = some (.loc k,σ₁))(hk:Vd σ₁ (.loc k)=some [.loc n,.loc a])(K:EY (flR r0 n a) σ₁ = some (.next,flR r0 n a,σ₂)) :
    Du [some r0,some (.loc 3),some (.d (.str Do)),x3,x4] σ = some (.next,flR r0 n a,σ₂):=by
  have c1:AF .Eq (.d (.str Do)) (.d (.str s!"(")) σ = some (.d (.bool false),σ):=by rw [Qs];rw [decide_eq_false (by decide +kernel)]
  have c2:AF .Eq (.d (.str Do)) (.d (.str s!")")) σ = some (.d (.bool true),σ):=by rw [Qs];rw [decide_eq_true (by decide +kernel)]
  show (Al (AO _ _ (Al (AO _ (Al _ (Al EY _)) _) _)) _) _ _=_;erw [c1,c2,h0,hp,hk,← K]
theorem fl_tr (gw:AE (.loc n) (.d (.int 0)) σ = some (.d (.str w0),σ))(hin:AF .In (.d (.str w0)) (.d (.tup [.str s!"type",.str s!"result"])) σ = some (.d (.bool true),σ))(gl:AE (.loc 3) (.d (.int (-1))) σ = some (.loc k2,σ)) (g2:AE (.loc k2) (.d (.int 0)) σ = some (.loc m,σ))
    (jn:Di [.d (.str s!" "),.loc n] σ = some (.d (.str j),σ)) (a1:AH (.d (.str s!"(")) (.d (.str j)) σ = some (.d (.str u),σ)) (a2:AH (.d (.str u)) (.d (.str s!")")) σ = some (.d (.str w),σ))(hm:σ[m]? = some (.list V))(hl:V.length≤sizeLine) :
    EY (flR r0 n a) σ = some (.next,flR r0 n a,σ.set m (.list (V++[.d (.str w)]))):=by
  unfold EY;erw [gw,hin,gl,g2,jn,a1,a2,hm,hl,← (by decide:(2:Nat)≤sizeLine)]
theorem fl_no (gw:AE (.loc n) (.d (.int 0)) σ = some (.d (.str w0),σ))(hin:AF .In (.d (.str w0)) (.d (.tup [.str s!"type",.str s!"result"])) σ = some (.d (.bool false),σ))(gl:AE (.loc 3) (.d (.int (-1))) σ = some (.loc k2,σ)) (g2:AE (.loc k2) (.d (.int 1)) σ = some (.loc m,σ))(hm:σ[m]? = some (.list V))
    (jn:Di [.d (.str s!" "),.loc n] σ = some (.d (.str j),σ))(ad:AH (.loc a) (.loc σ.length) (σ ++ [.list [.d (.str j)]])=some (.loc q,σ₂))(ex:Hq [.loc m,.loc q] σ₂ = some (.d .none,σ₃)) :
    EY (flR r0 n a) σ = some (.next,flR r0 n a,σ₃):=by
  unfold EY;erw [gw,hin,gl,g2,hm,jn,ad,ex,← (by decide:(2:Nat)≤sizeLine),← (by decide:(1:Nat)≤sizeLine)]
end
theorem B1.hd {α β:Type}{R:α→β→Prop}{a:α}{b:β}{l:List α}{l':List β}(h:B1 R (a::l) (b::l')):R a b:=by
  cases h with
  | cons x _=>exact x
theorem A46 {w0:Str}{σ:Sto}(hc:Ht w0=true):AF .In (.d (.str w0)) (.d (.tup [.str s!"type",.str s!"result"])) σ = some (.d (.bool (K9 w0)),σ):=by
  show (if (w0.cps.all (· < 0x110000) && ([s!"type",s!"result"]:List Str).all PyData.strOk)=true then some (AV.d (.bool (([s!"type",s!"result"]:List Str).contains w0)),σ) else none)=_;have h2:([s!"type",s!"result"]:List Str).all PyData.strOk=true:=by decide +kernel
  have h3:w0.cps.all (· < 0x110000)=true:=hc;have h4:([s!"type",s!"result"]:List Str).contains w0=K9 w0:=by
    unfold K9;simp only [List.contains_cons,List.contains_nil,Bool.or_false];rfl
  rw [h2,h3,h4];rfl
theorem A1R {σ:Sto}{n:Nat} {w0:Str}{ws:List Str}(k:σ[n]? = some (.list (sL (w0::ws))))(h:wsz (w0::ws)≤100000):Di [.d (.str s!" "),.loc n] σ = some (.d (.str (Str.join spc (w0::ws))),σ):=by
  show ((AU σ (.loc n)).bind Ga).bind _=_;rw [asL k,Option.bind_some,Iw,Option.bind_some,if_pos (U8 w0 ws h),e32,Iy]
theorem A5O {σ:Sto}{a b:Nat}{l l':List AV}(h:σ[a]? = some (.list l))(h':σ[b]? = some (.list l'))(hl:l.length+l'.length≤sizeLine):AH (.loc a) (.loc b) σ = some (.loc σ.length,σ ++ [.list (l++l')]):=by
  show (AU _ (.loc a)).bind (fun l=>(AU _ (.loc b)).bind fun l'=>if l.length+l'.length≤sizeLine then _ else none)=_;rw [asL h,Option.bind_some,asL h',Option.bind_some,if_pos hl]
section
variable {wl:List AV}{σ:Sto}{ns:List Nat}{stk:Stk}
noncomputable def Yo (wl:List AV)(σ:Sto)(tok:Str) (r0:AV) (x3 x4:Option AV)(stk':Stk):Prop:=
  ∃ σ' ns' x3' x4',Du [some r0,some (.loc 3),some (.d (.str tok)),x3,x4] σ = some (.next,[some r0,some (.loc 3),some (.d (.str tok)),x3',x4'],σ')∧SI wl σ' ns' stk'
section
variable {σ₁:Sto} {r0:AV} {x3 x4:Option AV} {w0:Str}{ws A W' A':List Str}{rest:Stk}{n m:Nat}
theorem A3W (C:∀ {σ₂:Sto},EY (flR r0 n (n+1)) σ₁ = some (.next,flR r0 n (n+1),σ₂)→Du [some r0,some (.loc 3),some (.d (.str Do)),x3,x4] σ = some (.next,flR r0 n (n+1),σ₂))(htr:K9 w0=true)
    (k0:σ₁[n]? = some (.list (sL (w0::ws)))) (h1:SI wl σ₁ (m::ns) ((W',A')::rest)) (hz:wsz (w0::ws)+wsz W'≤90000):Yo wl σ Do r0 x3 x4 ((W'++[opn++Str.join spc (w0::ws)++Do],A')::rest):=by
  have f1:Nb σ₁ m (W',A'):=by cases h1.fr with | cons a b=>exact a
  have hF1:=h1.hF;rw [List.reverse_cons,List.map_append] at hF1;have hj:=@Qd w0 ws;have hcp:Ht w0=true:=by
    unfold K9 at htr;rw [Bool.or_eq_true,decide_eq_true_eq,decide_eq_true_eq] at htr;rcases htr with rfl | rfl <;> decide +kernel
  have hw':=DI W';have:=h1.setW (W₂:=W'++[opn++Str.join spc (w0::ws)++Do]);rw [sL,List.map_append] at this;exact ⟨_,m::ns,_,_,C (fl_tr (VQ k0) (htr ▸ A46 hcp) (Q7 hF1) (VQ f1.2.2) (A1R k0 (by omega)) (I9.trans (if_pos (by rw [e40,sizeLine_eq];show 1 + _≤_;omega))) (I9.trans (if_pos (by rw [BA,e40,e41,sizeLine_eq];show 1 + _+1≤_;omega))) f1.1 (by show (sL W').length≤_;rw [NM,sizeLine_eq];omega)),this⟩
theorem A3V (C:∀ {σ₂:Sto},EY (flR r0 n (n+1)) σ₁ = some (.next,flR r0 n (n+1),σ₂)→Du [some r0,some (.loc 3),some (.d (.str Do)),x3,x4] σ = some (.next,flR r0 n (n+1),σ₂))(htr:K9 w0=false)(hcp:Ht w0=true)
    (k0:σ₁[n]? = some (.list (sL (w0::ws)))) (k1:σ₁[n+1]? = some (.list (sL A))) (h1:SI wl σ₁ (m::ns) ((W',A')::rest)) (hz:wsz (w0::ws)+wsz A+wsz A'≤90000):Yo wl σ Do r0 x3 x4 ((W',A'++(A++[Str.join spc (w0::ws)]))::rest):=by
  have f1:Nb σ₁ m (W',A'):=by cases h1.fr with | cons a b=>exact a
  have hF1:=h1.hF;rw [List.reverse_cons,List.map_append] at hF1;have hj:=@Qd w0 ws;have hA:=DI A;have hA':=DI A';have h3:=(h1.app (.list [.d (.str (Str.join spc (w0::ws)))])).app (.list (sL A++[.d (.str (Str.join spc (w0::ws)))]));have f3:=B1.hd h3.fr;exact ⟨_,m::ns,_,_,C (fl_no (VQ k0) (htr ▸ A46 hcp) (Q7 hF1) (A4V f1.2.2) f1.2.1 (A1R k0 (by omega)) (A5O (CL k1) (Dp (σ:=σ₁)) (by rw [NM,sizeLine_eq,List.length_singleton];omega)) (Sx f3.2.1 (Q3 Dp) (by rw [NM,sizeLine_eq,List.length_append,NM,List.length_singleton];omega) (l':=sL (A'++(A++[Str.join spc (w0::ws)]))) (by simp))),h3.setA (A₂:=A'++(A++[Str.join spc (w0::ws)]))⟩
end
theorem Xu {w0:Str}{ws A W' A':List Str}{rest' stk':Stk}(hm:(if K9 w0=true then some ((W'++[opn++Str.join spc (w0::ws)++Do],A')::rest') else if Ht w0=true then some ((W',A'++(A++[Str.join spc (w0::ws)]))::rest') else none)=some stk')(h:SI wl σ ns ((w0::ws,A)::(W',A')::rest'))
    (hz:wsz (w0::ws)+wsz A+1+(wsz W' + wsz A' + 1+swt rest')≤90000) {r0:AV} {x3 x4:Option AV}:Yo wl σ Do r0 x3 x4 stk':=by
  have hsl:=UN rest';cases ns with
  | nil=>cases h.fr
  | cons n ns=>cases ns with
    | nil=>cases h.fr with | cons a b=>cases b
    | cons m ns' =>
      have hfr:=B1.hd h.fr;have hrl:=h.fr.length;rw [List.length_cons,List.length_cons,List.length_cons,List.length_cons] at hrl;have hln:=h.lo n (.head _);have h1:=h.pop;have hF:=h.hF;rw [List.reverse_cons,List.map_append] at hF;have pp:Yn [.loc 3] σ = some (.loc (n+2),σ.set 3 (.list ((m::ns').reverse.map fun n=>AV.loc (n+2)))):=
        e_pop hF (by rw [sizeLine_eq,List.length_append,List.length_map,List.length_reverse,List.length_map,List.length_cons];show _+1+1≤_;omega) List.getLast?_concat List.dropLast_concat
      have C:=fun {σ₂}=>A1w (r0:=r0) (x3:=x3) (x4:=x4) (σ₂:=σ₂) hF pp (asL ((AW (by omega)).trans hfr.2.2))
      by_cases htr:K9 w0=true
      · rw [if_pos htr] at hm
        exact Option.some.inj hm ▸ A3W C htr ((AW (by omega)).trans hfr.1) h1 (by omega)
      · rw [if_neg htr] at hm
        by_cases hcp:Ht w0=true
        · rw [if_pos hcp] at hm
          exact Option.some.inj hm ▸ A3V C (Bool.eq_false_iff.mpr htr) hcp ((AW (by omega)).trans hfr.1) ((AW (by omega)).trans hfr.2.1) h1 (by omega)
        · rw [if_neg hcp] at hm;cases hm
theorem ZH {tok:Str}{stk':Stk}(hm:CM tok stk=some stk')(h:SI wl σ ns stk)(hz:swt stk≤90000) (r0:AV) (x3 x4:Option AV):Yo wl σ tok r0 x3 x4 stk':=by
  have hnl:ns.length=stk.length:=h.fr.length;have hsl:=UN stk;have hLl:(ns.reverse.map fun n=>AV.loc (n+2)).length≤sizeLine:=by rw [List.length_map,List.length_reverse,sizeLine_eq];omega
  rcases A0w tok with rfl | rfl | hp
  ·
    have hs:stk'=([],[])::stk:=by
      cases stk with
      | nil=>cases hm
      | cons p rest=>obtain (⟨W,A⟩):=p;rw [NH] at hm;exact (Option.some.inj hm).symm
    subst hs;have h':=((h.app (.list [])).app (.list [])).app (.list [.loc σ.length,.loc (σ ++ [SO.list []]).length]);have:=h.push;rw [List.reverse_cons,List.map_append] at this;refine ⟨_,σ.length::ns,x3,x4,A3T h.hF h'.hF hLl,?_⟩;rw [show (σ ++ [SO.list []]).length=σ.length+1 by simp,show ((σ ++ [SO.list []])++[SO.list []]).length=σ.length+2 by simp]
    exact this
  ·
    unfold CM at hm;rw [if_neg XV,if_pos rfl] at hm;cases stk with
    | nil=>cases hm
    | cons p stk=>obtain (⟨w,A⟩):=p;cases w with
      | nil=>cases hm
      | cons w0 ws=>cases stk with
        | nil=>cases hm
        | cons p rest =>
          obtain (⟨W',A'⟩):=p;exact Xu hm h hz
  ·
    obtain ⟨n1,n2⟩:=Wc hp;cases h.fr with
    | nil =>
      unfold CM at hm;rw [if_neg n1,if_neg n2] at hm;cases hm
    | @cons n p ns stk hfr hr =>
      obtain (⟨W,A⟩):=p;rw [ES hp] at hm;have hs:=(Option.some.inj hm).symm;subst hs;have hF:=h.hF;rw [List.reverse_cons,List.map_append] at hF;have hz':wsz W+wsz A+1+swt stk≤90000:=hz;have hw:=DI W;have:=h.setW (W₂:=W++[tok]);rw [sL,List.map_append] at this;exact ⟨_,n::ns,x3,x4,A3U (by rw [e40];exact n1) (by rw [e41];exact n2) (Q7 hF) (VQ (σ:=σ) hfr.2.2) hfr.1 (by show (sL W).length≤_;rw [NM,sizeLine_eq];omega),this⟩
end
theorem VR {x:Str}{c:Nat}{r:List Nat}(h:cl x=c::r)(σ:Sto):AE (.d (.str x)) (.d (.int 0)) σ = some (.d (.str ⟨#[c]⟩),σ):=by
  have hl:0 < x.length:=by rw [Gk,h];simp
  have hc:x.cps[0]? = some c:=by
    rw [← Array.getElem?_toList];show (cl x)[0]? = some c;rw [h];rfl
  rw [g_str];rw [if_pos (by decide),StrLaws.seqIndex_nonneg (by decide) (by omega),Option.bind_some];show (x.cps[0]?).map _=_;rw [hc];rfl
theorem ZG {t:Str}{c:Nat}{r:List Nat}(h:cl t=c::r) (h40:c≠40)(σ:Sto):E9 [.d (.str t)] σ = some (.d (.lst ([t].map sD)),σ):=by
  refine Fe [.str t] rfl ?_ σ;show ∃ ρ' σ',FE [some (.d (.str t)),none,none,none,none] []=_;have hd:decide ((⟨#[c]⟩:Str)=s!"(")=false:=decide_eq_false fun e=>by
    rw [e40] at e;have:=congrArg cl e;exact h40 (by simpa [cl] using this)
  have t1:xTr (Ai (AF .NotEq) (Ai AE (Aa 0) (xD (.int 0))) (xD (.str s!"("))) [some (.d (.str t)),none,none,none,none] []=some (true,[]):=
    WC (Ej (Ej (rfl:Aa 0 _ _=some (.d (.str t),[])) (rfl:xD (.int 0) _ _=some (.d (.int 0),[])) (VR h [])) (rfl:xD (.str s!"(") _ _=some (.d (.str s!"("),[])) (by rw [A2q,hd];rfl))
  have f1:xFz (BX (A8 (Aa 0) Af)) [some (.d (.str t)),none,none,none,none] []=some (.d (.lst ([t].map sD)),[.dead]):=
    VP (A35 (A4N (rfl:Aa 0 _ _=some (.d (.str t),[]))) (by simp)) rfl
  have e:=A6c (y:=Am) t1 (UG (y:=Am) f1);unfold FE Al;refine ⟨[some (.d (.str t)),none,none,none,none],[.dead],?_⟩;unfold Al at e;rw [e];rfl
noncomputable def tsz (l:List Str):Nat:=(l.map fun t=>t.length+3).sum
theorem A7G (l:List Str):tsz l≤3 * ((l.map (·.length)).sum+l.length):=by
  induction l with
  | nil=>exact Nat.le_refl _
  | cons a l ih =>
    unfold tsz at ih ⊢;rw [List.map_cons,List.sum_cons,List.map_cons,List.sum_cons,List.length_cons];omega
theorem A4U {s:Str}(hz:s.length≤2000):(Txt.replace (Txt.replace s s!"(" s!" ( ") s!")" s!" ) ").length≤18000:=by
  have hx1:(Txt.replace s s!"(" s!" ( ").length≤6000:=by
    rw [Gk,e40,Wq];have:=Uw 40 (cl s!" ( ") (by decide +kernel) (cl s)
    rw [← Gk] at this;omega
  generalize Txt.replace s s!"(" s!" ( " = u at hx1
  rw [Gk,e41,Wq];have:=Uw 41 (cl s!" ) ") (by decide +kernel) (cl u)
  rw [← Gk] at this;omega
theorem A4T (s:Str):Txt.words (Txt.replace (Txt.replace s s!"(" s!" ( ") s!")" s!" ) ")=tk s:=by rw [A2T,repl2];rfl
noncomputable abbrev fwS:Sto:=[SO.list [],.list [],.list [.loc 0,.loc 1],.list [.loc 2]]
noncomputable def OW:XE:=(xMt (Hp KE) (Om s!")" s!" ) " (Om s!"(" s!" ( " (Aa 0))) Af)
theorem A1H {s:Str}(hz:s.length≤2000):OW [some (.d (.str s)),some (.loc 3),none,none,none] fwS=some (.loc 4,fwS++[.list (sL (tk s))]):=by
  have hx1:(Txt.replace s s!"(" s!" ( ").length≤6000:=by
    rw [Gk,e40,Wq];have:=Uw 40 (cl s!" ( ") (by decide +kernel) (cl s)
    rw [← Gk] at this;omega
  have l3:s!" ( ".length=3:=by decide +kernel
  have l4:s!" ) ".length=3:=by decide +kernel
  have hwd:=A4T s;have hx2:=A4U hz;have hws:=Yc (Txt.replace (Txt.replace s s!"(" s!" ( ") s!")" s!" ) ") (by omega);rw [← hwd];have p1:Om s!"(" s!" ( " (Aa 0) [some (.d (.str s)),some (.loc 3),none,none,none] fwS=some (.d (.str (Txt.replace s s!"(" s!" ( ")),fwS):=by
    show (if s.length+(s.length+1) * s!" ( ".length≤16777216 then _ else none)=_
    exact if_pos (by rw [l3];omega)
  have p2:Om s!")" s!" ) " (Om s!"(" s!" ( " (Aa 0)) [some (.d (.str s)),some (.loc 3),none,none,none] fwS=some (.d (.str (Txt.replace (Txt.replace s s!"(" s!" ( ") s!")" s!" ) ")),fwS):=by
    refine e_b p1 ?_;generalize Txt.replace s s!"(" s!" ( " = u at hx1 ⊢
    show (if u.length+(u.length+1) * s!" ) ".length≤16777216 then _ else none)=_
    exact if_pos (by rw [l4];omega)
  exact A1l (m:=Hp KE) p2 rfl Q2 (if_pos ⟨Nat.le_trans hx2 (by decide),hws⟩)
theorem fw_x {s:Str} {x2 x3 x4:Option AV}{σ' σ'':Sto}{k n:Nat}{L:D} (g0:AE (.d (.str s)) (.d (.int 0)) []=some (.d (.str ⟨#[40]⟩),[]))(lp:DL (xIt OW) (BN 2) Du [some (.d (.str s)),some (.loc 3),none,none,none] fwS=some (.next,[some (.d (.str s)),some (.loc 3),x2,x3,x4],σ'))
    (g1:AE (.loc 3) (.d (.int 0)) σ'=some (.loc k,σ')) (g2:AE (.loc k) (.d (.int 1)) σ'=some (.loc n,σ')) (hz:frz (.loc n) σ'=some (L,σ'')):∃ ρ' σ',FE [some (.d (.str s)),none,none,none,none] []=some (.ret (.d L),ρ',σ'):=by
  have ne:AF .NotEq (.d (.str ⟨#[40]⟩)) (.d (.str s!"(")) []=some (.d (.bool false),[]):=by
    rw [A2q,show decide ((⟨#[40]⟩:Str)=s!"(")=true by decide +kernel];rfl
  have s2:Bm 1 (BX (A8 (BX (A8 (BX Af) (A8 (BX Af) Af))) Af)) [some (.d (.str s)),none,none,none,none] []=some (.next,[some (.d (.str s)),some (.loc 3),none,none,none],fwS):=rfl;refine ⟨[some (.d (.str s)),some (.loc 3),x2,x3,x4],σ'',VG (A:=AO _ _ _) (p:=(.next,_,[])) (by erw [g0,ne]) (e_kn (VG s2 (e_kn (VG (A:=DL (xIt OW) _ Du) lp (e_kn ?_)))))⟩;erw [g1,g2,hz]
noncomputable def FwI (wl:List AV)(l:List Str) (r0:AV)(q:List AV)(ρ:Lo)(σ:Sto):Prop:=
  ∃ ts stk ns x2 x3 x4,q=sL ts∧Gs ts stk=some [([],l)]∧SI wl σ ns stk∧swt stk+tsz ts≤90000∧ρ = [some r0,some (.loc 3),x2,x3,x4]
theorem A3Y {wl:List AV}{l:List Str} {r0 a:AV}{q:List AV}{ρ:Lo}{σ:Sto}(h:FwI wl l r0 (a::q) ρ σ):∃ ρ₁ σ₁ ρ' σ',BN 2 a ρ σ = some (ρ₁,σ₁)∧Du ρ₁ σ₁ = some (.next,ρ',σ')∧FwI wl l r0 q ρ' σ':=by
  obtain ⟨ts,stk,ns,x2,x3,x4,h1,h2,h3,h4,rfl⟩:=h;cases ts with
  | nil=>cases h1
  | cons t ts =>
    obtain ⟨rfl,rfl⟩:=List.cons.inj h1;obtain ⟨stk',m1,m2⟩:=Az (show (CM t stk).bind (Gs ts)=some [([],l)] from h2);have hsz:tsz (t::ts)=t.length+3+tsz ts:=rfl;rw [hsz] at h4;have hsw:=ZZ m1;obtain ⟨σ',ns',x3',x4',e,h'⟩:=ZH m1 h3 (by omega) r0 x3 x4;exact ⟨_,_,_,σ',rfl,e,ts,stk',ns',_,_,_,rfl,m2,h',by omega,rfl⟩
theorem Xv {s:Str}{l:List Str}{r:List Nat}(hW:Wh s l)(h:cl s=40::r)(hz:s.length≤2000)(σ:Sto):E9 [.d (.str s)] σ = some (.d (.lst (l.map sD)),σ):=by
  refine Fe [.str s] rfl ?_ σ;have hww:=StrLaws.words_weight (Txt.replace (Txt.replace s s!"(" s!" ( ") s!")" s!" ) ");rw [A4T] at hww;have hwt:=A4U hz;have hts:=A7G (tk s);have hI0:SI (sL (tk s)) (fwS++[.list (sL (tk s))]) [0] [([],[])]:=
    ⟨rfl,rfl,.cons ⟨rfl,rfl,rfl⟩ .nil,fun n hn=>.inl (by simpa using hn),List.pairwise_singleton ..⟩
  have hit:xIt OW [some (.d (.str s)),some (.loc 3),none,none,none] fwS=some (GF (.loc 4),fwS++[.list (sL (tk s))]):=e_b (A1H hz) rfl;obtain ⟨ρ',σ',e1,hI⟩:=QU (asg:=BN 2) (body:=Du) (sL (tk s)) (FwI (sL (tk s)) l (.d (.str s))) hit
    (fun ρ σ i hI=>by
      obtain ⟨ts,stk,ns,x2,x3,x4,h1,h2,h3,h4,h5⟩:=hI;unfold GF;rw [asL h3.hW];rfl)
    (fun a q ρ σ hI=>A3Y hI)
    (by rw [NM];omega) ⟨tk s,[([],[])],[0],none,none,none,rfl,by rw [hW [] [] []];rfl,hI0,by show 0+0+1+0+tsz (tk s)≤_;omega,rfl⟩
  obtain ⟨ts,stk,ns,x2,x3,x4,h1,h2,h3,h4,rfl⟩:=hI;cases ts with
  | cons=>cases h1
  | nil =>
    obtain rfl:=Option.some.inj (show some stk=some [([],l)] from h2);cases ns with
    | nil=>cases h3.fr
    | cons n ns =>
      have hfr:=B1.hd h3.fr;cases ns with
      | cons=>cases h3.fr with | cons a b=>cases b
      | nil =>
        have h5:=hfr.2.1;rw [show sL l=(l.map sD).map .d by rw [List.map_map];rfl] at h5
        have hfz:frz (.loc (n+1)) σ'=some (.lst (l.map sD),σ'.set (n+1) .dead):=by
          unfold frz;simp only [h5,C0,Option.map_some]
        exact fw_x (VR h []) e1 (VQ (show σ'[3]? = some (.list [.loc (n+2)]) from h3.hF)) (A4V hfr.2.2) hfz
theorem U5 {t:Str}(h:good t=true):10 ∉ cl t:=by
  unfold good at h;simp only [Bool.and_eq_true,Bool.not_eq_true'] at h;have h1:=h.1.2;intro hm;rw [List.contains_iff_mem.mpr hm] at h1;cases h1
set_option tactic.hygienic true in
theorem U4 {t:Str}(h:good t=true):∃ c r,cl t=c::r∧c≠40∧c≠32:=by
  unfold good at h;simp only [Bool.and_eq_true] at h;have h1:=h.2;split at h1
  · rename_i c r e
    simp only [Bool.and_eq_true,Bool.not_eq_true',beq_eq_false_iff_ne,ne_eq] at h1;exact ⟨c,r,e,h1.1,h1.2⟩
  · cases h1
theorem MB (a b:Str):Ht (a++b)=(Ht a && Ht b):=by
  unfold Ht;rw [← Array.all_toList,← Array.all_toList,← Array.all_toList];show (cl (a++b)).all _=_;rw [BT,List.all_append]
structure WhF (s:Str) (l:List Str):Prop where
  wh:Wh s l
  cp:Ht s=true
  hd:∃ r,cl s=40::r
  nl:10 ∉ cl s
noncomputable def Jk (s:Str)(l:List Str):Prop:=(good s=true∧l=[s])∨WhF s l
theorem Jk.rw {s:Str}{l:List Str}(h:Jk s l):Rw s:=by
  rcases h with ⟨h,_⟩ | h
  · obtain ⟨c,r,e,_,h2⟩:=U4 h
    exact ⟨U5 h,c,r,e,h2⟩
  · obtain ⟨r,e⟩:=h.hd
    exact ⟨h.nl,40,r,e,by decide⟩
theorem Jk.flat {s:Str}{l:List Str}(h:Jk s l)(hz:s.length≤2000)(σ:Sto):E9 [.d (.str s)] σ = some (.d (.lst (l.map sD)),σ):=by
  rcases h with ⟨h,rfl⟩ | h
  · obtain ⟨c,r,e,h1,_⟩:=U4 h
    exact ZG e h1 σ
  · obtain ⟨r,e⟩:=h.hd
    exact Xv h.wh e hz σ
theorem YQ:∀ (l:List Str),(∀ s∈l,10 ∉ cl s)→10 ∉ cl (Str.join spc l)
  | [],_=>by decide
  | [x],h=>h x (.head _)
  | x::y::r,h=>by
    show 10 ∉ cl (x++spc++Str.join spc (y::r));have h1:=h x (.head _);have h2:=YQ (y::r) fun s hs=>h s (.tail _ hs);rw [BT,BT];have h3:cl spc=[32]:=rfl;rw [h3];simp only [List.mem_append,List.mem_singleton,not_or];exact ⟨⟨h1,by decide⟩,h2⟩
theorem Jk.cp {s:Str}{l:List Str}(h:Jk s l):Ht s=true:=by
  rcases h with ⟨h,_⟩ | h
  · exact U3 h
  · exact h.cp
theorem YO:∀ (l:List Str),(∀ s∈l,Ht s=true)→Ht (Str.join spc l)=true
  | [],_=>by decide +kernel
  | [x],h=>h x (.head _)
  | x::y::r,h=>by
    show Ht (x++spc++Str.join spc (y::r))=true;rw [MB,MB,h x (.head _),YO (y::r) fun s hs=>h s (.tail _ hs),show Ht spc=true from by decide +kernel];rfl
theorem A0B {t:Str}(h:good t=true){args:List Str}{ls:List (List Str)}(ha:B1 WhF args ls):WhF (GI t args) (ls.flatten++[t]):=by
  have key:∀ {args:List Str} {ls:List (List Str)},B1 WhF args ls→∀ s∈args,10 ∉ cl s:=by
    intro args ls h
    induction h with
    | nil=>intro s hs;cases hs
    | cons a r ih =>
      intro s hs;rcases List.mem_cons.mp hs with rfl | hs
      · exact a.nl
      · exact ih s hs
  have keyc:∀ {args:List Str} {ls:List (List Str)},B1 WhF args ls→∀ s∈args,Ht s=true:=by
    intro args ls h
    induction h with
    | nil=>intro s hs;cases hs
    | cons a r ih =>
      intro s hs;rcases List.mem_cons.mp hs with rfl | hs
      · exact a.cp
      · exact ih s hs
  refine ⟨A2S h (ha.mono fun ξ ξ x=>x.wh),?_,?_,?_⟩
  · rw [N7,MB,MB,YO (t::args) (fun s hs=>by
      rcases List.mem_cons.mp hs with rfl | hs
      · exact U3 h
      · exact keyc ha s hs),show Ht opn=true from by decide +kernel,show Ht Do=true from by decide +kernel]
    rfl
  · rw [N7,BT,BT]
    exact ⟨_,rfl⟩
  · have hj:=YQ (t::args) (fun s hs=>by
      rcases List.mem_cons.mp hs with rfl | hs
      · exact U5 h
      · exact key ha s hs)
    rw [N7,BT,BT];have h1:cl opn=[40]:=rfl;have h2:cl Do=[41]:=rfl;rw [h1,h2];simp only [List.mem_append,List.mem_singleton,not_or];exact ⟨⟨by decide,hj⟩,by decide⟩
theorem A1A {p:TC}{st:FS}{rl vl:List (List Str)}(hp:good p.1=true) (h1:B1 Jk st.1 rl) (h2:B1 WhF st.2 vl) :
    ∃ rl' vl',B1 Jk (AZ st p).1 rl'∧B1 WhF (AZ st p).2 vl'∧(rl'++vl').flatten=(rl++vl).flatten++[p.1]:=by
  have hr:B1 Jk st.2 vl:=h2.mono fun ξ ξ x=>.inr x;have one:B1 Jk [p.1] [[p.1]]:=.cons (.inl ⟨hp,rfl⟩) .nil;have nx:∀ (st':FS) (rl' vl':List (List Str)),B1 Jk st'.1 rl'→B1 WhF st'.2 vl'→AZ st p=st'→(rl'++vl').flatten=(rl++vl).flatten++[p.1]→∃ rl' vl',B1 Jk (AZ st p).1 rl'∧B1 WhF (AZ st p).2 vl'∧(rl'++vl').flatten=(rl++vl).flatten++[p.1]:=
    fun st' rl' vl' a1 a2 e e2=>⟨rl',vl',e ▸ a1,e ▸ a2,e2⟩
  obtain (⟨t,cn⟩):=p;cases cn with
  | none=>exact nx (st.1++st.2++[t],[]) (rl++vl++[[t]]) [] ((h1.append hr).append one) .nil rfl (by simp)
  | some cq =>
    obtain (⟨c,q⟩):=cq
    by_cases hlt:st.2.length < c
    · exact nx (st.1++st.2++[t],[]) (rl++vl++[[t]]) [] ((h1.append hr).append one) .nil (by unfold AZ;simp only [if_pos hlt]) (by simp)
    · have w:=A0B hp (h2.drop (st.2.length - c))
      have hv:(List.take (st.2.length - c) vl).flatten++(List.drop (st.2.length - c) vl).flatten=vl.flatten:=by rw [← List.flatten_append,List.take_append_drop]
      by_cases hq:q=1
      · refine nx (st.1,st.2.take (st.2.length - c)++[GI t (st.2.drop (st.2.length - c))]) rl (vl.take (st.2.length - c)++[(vl.drop (st.2.length - c)).flatten++[t]]) h1 ((h2.take _).append (.cons w .nil)) (by unfold AZ;simp only [if_neg hlt,if_pos hq]) ?_
        simp only [List.flatten_append,List.flatten_cons,List.flatten_nil,List.append_nil];rw [← hv];simp only [List.append_assoc]
      · refine nx (st.1++st.2.take (st.2.length - c)++[GI t (st.2.drop (st.2.length - c))],[]) (rl++vl.take (st.2.length - c)++[(vl.drop (st.2.length - c)).flatten++[t]]) [] ((h1.append (hr.take _)).append (.cons (.inr w) .nil)) .nil (by unfold AZ;simp only [if_neg hlt,if_neg hq]) ?_
        simp only [List.flatten_append,List.flatten_cons,List.flatten_nil,List.append_nil];rw [← hv];simp only [List.append_assoc]
theorem A1z (tcs:List TC):∀ (st:FS) (rl vl:List (List Str)),(∀ p∈tcs,good p.1=true)→B1 Jk st.1 rl→B1 WhF st.2 vl →
    ∃ rl' vl',B1 Jk (tcs.foldl AZ st).1 rl'∧B1 WhF (tcs.foldl AZ st).2 vl'∧(rl'++vl').flatten=(rl++vl).flatten++tcs.map (·.1):=by
  induction tcs with
  | nil=>exact fun st rl vl ξ h1 h2=>⟨rl,vl,h1,h2,by simp⟩
  | cons p tcs ih =>
    intro st rl vl hg h1 h2;obtain ⟨rl',vl',a1,a2,e⟩:=A1A (hg p (.head _)) h1 h2;obtain ⟨rl'',vl'',b1,b2,e'⟩:=ih (AZ st p) rl' vl' (fun q hq=>hg q (.tail _ hq)) a1 a2;exact ⟨rl'',vl'',b1,b2,by rw [e',e,List.map_cons];simp⟩
theorem VM:∀ (tcs:List TC)(st:FS),(∀ p∈tcs,p.1.length≤60)→wsz (tcs.foldl AZ st).1+wsz (tcs.foldl AZ st).2≤wsz st.1+wsz st.2+63 * tcs.length
  | [],st,_=>by simp
  | p::tcs,st,h=>by
    have h1:=Nz st p (h p (.head _));have h2:=VM tcs (AZ st p) fun q hq=>h q (.tail _ hq);rw [List.foldl_cons,List.length_cons];omega
theorem A1x {tcs:List TC}(hg:∀ p∈tcs,good p.1=true)(hn:tcs.length≤16) :
    ∃ ls,B1 Jk ((tcs.foldl AZ ([],[])).1++(tcs.foldl AZ ([],[])).2) ls∧ls.flatten=tcs.map (·.1)∧(∀ t∈(tcs.foldl AZ ([],[])).1++(tcs.foldl AZ ([],[])).2,t.length≤2000)∧((tcs.foldl AZ ([],[])).1++(tcs.foldl AZ ([],[])).2).length≤120:=by
  obtain ⟨rl,vl,h1,h2,h3⟩:=A1z tcs ([],[]) [] [] hg .nil .nil;have hw:=VM tcs ([],[]) fun p hp=>Hd (hg p hp);have hw:wsz (tcs.foldl AZ ([],[])).1+wsz (tcs.foldl AZ ([],[])).2≤63 * 16:=by
    refine Nat.le_trans hw ?_;show 0+0+63 * tcs.length≤_;omega
  have e:=Ee (tcs.foldl AZ ([],[])).1 (tcs.foldl AZ ([],[])).2;refine ⟨rl++vl,h1.append (h2.mono fun ξ ξ x=>.inr x),by simpa using h3,fun t ht=>?_,?_⟩
  · have:=UU ht
    omega
  · have ln:∀ (tcs:List TC) (st:FS),(tcs.foldl AZ st).1.length+(tcs.foldl AZ st).2.length≤st.1.length+st.2.length+tcs.length:=by
      intro tcs
      induction tcs with
      | nil=>intro st;exact Nat.le_refl _
      | cons p tcs ih =>
        intro st;have h1:=ih (AZ st p);have h2:(AZ st p).1.length+(AZ st p).2.length≤st.1.length+st.2.length+1:=by
          unfold AZ;split
          · simp;omega
          · split
            · simp;omega
            · split
              · simp only [List.length_append,List.length_take,List.length_singleton];omega
              · simp only [List.length_append,List.length_take,List.length_singleton,List.length_nil];omega
        rw [List.foldl_cons,List.length_cons];omega
    have:=ln tcs ([],[]);rw [List.length_append];simp only [List.length_nil] at this;omega
noncomputable abbrev OA (a:Int):D:=.tup [.str s!"h",.str s!"f",.int 0,.int a]
noncomputable abbrev fnT (k:Int) (loc:List Int) (body:List D):D:=.tup [.int k,ti loc,.tup body]
noncomputable abbrev Gu (b:Int) (ops:List D):D:=.tup [fnT 0 [-1,-2] (ops++[ti [11]]),fnT b [] [ti [11]],fnT 9 [] [ti [11]]]
noncomputable def Uu (a b:Int)(ops:List D):D:=.tup [.tup DW,.tup [OA a],Gu b ops,.tup [],.tup [],.tup [],.tup [],.none,.tup [],.tup [],.tup []]
theorem T8 {ρ:Lo}{σ:Sto}:Af ρ σ = some (([]:List D).map AV.d,σ):=rfl
theorem DN {x:XE}{xs:XEs}{ρ:Lo}{σ:Sto}{d:D}{l:List D}(h:x ρ σ = some (.d d,σ))(k:xs ρ σ = some (l.map AV.d,σ)):A8 x xs ρ σ = some ((d::l).map AV.d,σ):=by
  unfold A8;rw [h,Option.bind_some];dsimp only;rw [k];rfl
theorem Ud {xs:XEs}{ρ:Lo}{σ:Sto}{l:List D}(h:xs ρ σ = some (l.map AV.d,σ))(hl:l.length≤100):AJ xs ρ σ = some (.d (.lst l),σ):=by
  unfold AJ;rw [h,Option.bind_some];dsimp only;rw [C0,Option.bind_some,if_pos (by rw [sizeLine_eq];omega)]
theorem Ix {l:List D}(h:l.length≤16777216)(σ:Sto):GA [.d (.lst l)] σ = some (.d (.tup l),σ):=by
  show (AU σ (.d (.lst l))).bind (fun l=>(Ez l).bind fun ds=>if ds.length≤sizeLine then some (AV.d (.tup ds),σ) else none)=_;show (Option.bind (Ez (l.map .d)) _)=_;rw [C0,Option.bind_some,sizeLine_eq,if_pos h]
theorem RL {k:Int}{loc:List Int}{body:List D}(hl:loc.length≤100)(h:body.length≤1000)(σ:Sto):CT [.d (fnD k loc body)] σ = some (.d (fnT k loc body),σ):=by
  refine Fe [fnD k loc body] rfl ?_ σ;show ∃ ρ' σ',Fs [some (.d (fnD k loc body))] []=_;have a1:Ay [220] s!"kind" (Aa 0) [some (.d (fnD k loc body))] []=some (.d (.int k),[]):=by kernel_rfl
  have a2:Ay [220] s!"locals" (Aa 0) [some (.d (fnD k loc body))] []=some (.d (ti loc),[]):=by kernel_rfl
  have a3:Ay [220] s!"body" (Aa 0) [some (.d (fnD k loc body))] []=some (.d (.lst body),[]):=by kernel_rfl
  have t2:GA [.d (ti loc)] []=some (.d (ti loc),[]):=rfl;have t3:=Ix (l:=body) (by omega) [];refine ⟨[some (.d (fnD k loc body))],[],?_⟩;unfold Fs Al B8 B2 Av;simp only [A8,Af,a1,a2,a3,t2,t3,Option.bind_some,Ez,Option.map_some,List.length_cons,List.length_nil,Nat.reduceAdd,sizeLine_eq,Nat.reduceLeDiff,if_true]
theorem A2s (b:Int)(ops:List D)(h:ops.length≤100)(σ:Sto):CX [.d (.lst [fn0 ops,fn1 b,fn2])] σ = some (.d (Gu b ops),σ):=by
  refine Fe [.lst [fn0 ops,fn1 b,fn2]] rfl ?_ σ;show ∃ ρ' σ',J6 [some (.d (.lst [fn0 ops,fn1 b,fn2]))] []=_;have hU:∀ (k:Int) (loc:List Int) (body:List D) (σ:Sto),Bz s!"plain" (mC 192 Dj (mC 220 CT mN)) (.d (fnD k loc body)) σ = some CT:=fun k loc body σ=>by kernel_rfl
  have el:∀ (k:Int) (loc:List Int) (body:List D) (σ:Sto),loc.length≤100→body.length≤1000→(xMt (Bz s!"plain" (mC 192 Dj (mC 220 CT mN))) (Aa 0) Af) [some (.d (fnD k loc body))] σ = some (.d (fnT k loc body),σ):=by
    intro k loc body σ h1 h2;unfold xMt;rw [show Aa 0 [some (AV.d (fnD k loc body))] σ = some (.d (fnD k loc body),σ) from rfl,Option.bind_some];dsimp only;rw [hU,Option.bind_some];show (Option.bind (some _) _)=_;rw [Option.bind_some];exact RL h1 h2 σ
  have e0:=el 0 [-1,-2] (ops++[ti [11]]) [] (by decide) (by simp;omega);have e1:=el b [] [ti [11]] [] (by decide) (by simp);have e2:=el 9 [] [ti [11]] [] (by decide) (by simp);have hc:=MA (xi:=xIt (Aa 0)) (fr:=[]) (xt:=BD) (xe:=(xMt (Bz s!"plain" (mC 192 Dj (mC 220 CT mN))) (Aa 0) Af)) (ρ:=[some (.d (.lst [fn0 ops,fn1 b,fn2]))]) (σ:=[]) (σ₁:=[]) (item:=GF (.d (.lst [fn0 ops,fn1 b,fn2]))) rfl (Md [fn0 ops,fn1 b,fn2]) (by simp);have hr:IU (([]:List Nat).map fun i=>(([some (AV.d (.lst [fn0 ops,fn1 b,fn2]))]:Lo)[i]?).join) BD (xMt (Bz s!"plain" (mC 192 Dj (mC 220 CT mN))) (Aa 0) Af) ([fn0 ops,fn1 b,fn2].map .d) [] []=some ([.d (fnT 0 [-1,-2] (ops++[ti [11]])),.d (fnT b [] [ti [11]]),.d (fnT 9 [] [ti [11]])],[]):=by
    show IU [] BD _ [AV.d (fn0 ops),AV.d (fn1 b),AV.d fn2] [] []=_;unfold IU IU IU IU BD;simp only [Option.bind_some,e0,e1,e2,List.nil_append,List.cons_append]
  rw [hr] at hc;have hf:=VP hc (IP (σ:=[]) (ds:=[fnT 0 [-1,-2] (ops++[ti [11]]),fnT b [] [ti [11]],fnT 9 [] [ti [11]]]));exact ⟨_,_,UG (Fw hf (Ix (by simp) _))⟩
theorem A0g (σ:Sto):CX [.d (.lst [])] σ = some (.d (.tup []),σ):=Br (by kernel_rfl) σ
theorem A0f (a:Int)(σ:Sto):CX [.d (.lst [A1M a])] σ = some (.d (.tup [OA a]),σ):=Br (by kernel_rfl) σ
set_option tactic.hygienic true in
theorem A2u (a b:Int)(ops:List D)(h:ops.length≤100)(σ:Sto):BP [.d (Ce a b ops)] σ = some (.d (Uu a b ops),σ):=by
  refine Fe [Ce a b ops] rfl ?_ σ;show ∃ ρ' σ',E3 [some (.d (Ce a b ops)),none] []=_;have at1:∀ (x1:Option AV) (σ:Sto),Ay [443] s!"kinds" (Aa 0) [some (.d (Ce a b ops)),x1] σ = some (.d (.lst DW),σ):=fun x1 σ=>by kernel_rfl
  have at2:∀ (x1:Option AV) (σ:Sto),Ay [443] s!"imports" (Aa 0) [some (.d (Ce a b ops)),x1] σ = some (.d (.lst [A1M a]),σ):=fun x1 σ=>by kernel_rfl
  have at3:∀ (x1:Option AV) (σ:Sto),Ay [443] s!"funcs" (Aa 0) [some (.d (Ce a b ops)),x1] σ = some (.d (.lst [fn0 ops,fn1 b,fn2]),σ):=fun x1 σ=>by kernel_rfl
  have at4:∀ (x1:Option AV) (σ:Sto),Ay [443] s!"tables" (Aa 0) [some (.d (Ce a b ops)),x1] σ = some (.d (.lst []),σ):=fun x1 σ=>by kernel_rfl
  have at5:∀ (x1:Option AV) (σ:Sto),Ay [443] s!"memories" (Aa 0) [some (.d (Ce a b ops)),x1] σ = some (.d (.lst []),σ):=fun x1 σ=>by kernel_rfl
  have at6:∀ (x1:Option AV) (σ:Sto),Ay [443] s!"globals" (Aa 0) [some (.d (Ce a b ops)),x1] σ = some (.d (.lst []),σ):=fun x1 σ=>by kernel_rfl
  have at7:∀ (x1:Option AV) (σ:Sto),Ay [443] s!"exports" (Aa 0) [some (.d (Ce a b ops)),x1] σ = some (.d (.lst []),σ):=fun x1 σ=>by kernel_rfl
  have at8:∀ (x1:Option AV) (σ:Sto),Ay [443] s!"start" (Aa 0) [some (.d (Ce a b ops)),x1] σ = some (.d .none,σ):=fun x1 σ=>by kernel_rfl
  have at9:∀ (x1:Option AV) (σ:Sto),Ay [443] s!"elems" (Aa 0) [some (.d (Ce a b ops)),x1] σ = some (.d (.lst []),σ):=fun x1 σ=>by kernel_rfl
  have at10:∀ (x1:Option AV) (σ:Sto),Ay [443] s!"datas" (Aa 0) [some (.d (Ce a b ops)),x1] σ = some (.d (.lst []),σ):=fun x1 σ=>by kernel_rfl
  have at11:∀ (x1:Option AV) (σ:Sto),Ay [443] s!"customs" (Aa 0) [some (.d (Ce a b ops)),x1] σ = some (.d (.lst []),σ):=fun x1 σ=>by kernel_rfl
  have tk1:=Ix (l:=DW) (by decide);have tk0:=Ix (l:=[]) (by decide);have pf:=A2s b ops h;have pn:=A0g;have pi:=A0f a;have g1:=Ud (xs:=_) (ρ:=[some (.d (Ce a b ops)),none]) (σ:=[]) (DN (Fw (at1 none []) (tk1 [])) (DN (Fw (at2 none []) (pi [])) (DN (Fw (at3 none []) (pf [])) (DN (Fw (at4 none []) (tk0 [])) T8)))) (by simp);have s1:Bm 1 _ _ _=some (.next,[some (.d (Ce a b ops)),some (.d (.lst [.tup DW,.tup [OA a],Gu b ops,.tup []]))],[]):=M6 (i:=1) g1;have v1:Aa 1 [some (.d (Ce a b ops)),some (.d (.lst [.tup DW,.tup [OA a],Gu b ops,.tup []]))] []=some (.d (.lst [.tup DW,.tup [OA a],Gu b ops,.tup []]),[]):=rfl;have g2:=Ud (xs:=_) (ρ:=[some (.d (Ce a b ops)),some (.d (.lst [.tup DW,.tup [OA a],Gu b ops,.tup []]))]) (σ:=[]) (DN (Fw (at5 _ []) (tk0 [])) (DN (Fw (at6 _ []) (pn [])) (DN (Fw (at7 _ []) (tk0 [])) (DN (at8 _ []) T8)))) (by simp);have g3:=LV v1 g2 (by simp);have s2:Bm 1 _ _ _=some (.next,[some (.d (Ce a b ops)),some (.d (.lst ([.tup DW,.tup [OA a],Gu b ops,.tup []]++[.tup [],.tup [],.tup [],.none])))],[.dead]):=M6 (i:=1) g3;have v2:Aa 1 [some (.d (Ce a b ops)),some (.d (.lst ([.tup DW,.tup [OA a],Gu b ops,.tup []]++[.tup [],.tup [],.tup [],.none])))] [.dead]=some (.d (.lst ([.tup DW,.tup [OA a],Gu b ops,.tup []]++[.tup [],.tup [],.tup [],.none])),[.dead]):=rfl;have g4:=Ud (xs:=_) (ρ:=[some (.d (Ce a b ops)),some (.d (.lst ([.tup DW,.tup [OA a],Gu b ops,.tup []]++[.tup [],.tup [],.tup [],.none])))]) (σ:=[.dead]) (DN (Fw (at9 _ [.dead]) (pn [.dead])) (DN (Fw (at10 _ [.dead]) (pn [.dead])) (DN (Fw (at11 _ [.dead]) (pn [.dead])) T8))) (by simp);have g5:=LV v2 g4 (by simp);unfold E3;rw [C3 s1,C3 s2];exact ⟨_,_,UG (Fw g5 (Ix (by simp) _))⟩
theorem Vp {x y:XE}{f:XC}{ρ:Lo}{σ σ₁ σ₂:Sto}{a b:AV}{r:Option (AV×Sto)}(h:x ρ σ = some (a,σ₁))(k:y ρ σ₁ = some (b,σ₂))(e:f [a,b] σ₂ = r):Av (A8 x (A8 y Af)) f ρ σ = r:=by
  unfold Av;rw [A1e h k];exact e
set_option tactic.hygienic true in
theorem A7r {op:D}(h:opF op=true):∀ n,okD (n+1) op=true:=by
  intro n;unfold opF at h;split at h
  · rename_i c l
    rw [Bool.and_eq_true] at h;have h2:=h.2;rw [List.all_eq_true] at h2;show (D.int c::l).all (okD n)=true;rw [List.all_cons];have h3:okD n (.int c)=true:=by cases n <;> rfl
    rw [h3,Bool.true_and,List.all_eq_true];intro d hd;have:=h2 d hd;cases d <;> first | (cases n <;> rfl) | cases this
  · cases h
theorem A4h (n:Nat)(i:Int):okD n (.int i)=true:=by cases n <;> rfl
theorem Q4 {x:D}(h:okD 8 x=true):eqD x x=true:=SeqAt.eqv_refl _ (Ub 8 x h).1
theorem Ui {l:List D}(h:okD 8 (.lst l)=true)(σ:Sto):AF .NotEq (.d (.lst l)) (.d (.lst l)) σ = some (.d (.bool false),σ):=by
  show xEq true (.d (.lst l)) (.d (.lst l)) σ = _;show (Option.bind (some (D.lst l)) fun x=>(Option.bind (some (D.lst l)) fun y=>if (okD 8 x && okD 8 y)=true then some (AV.d (.bool (if true=true then !(eqD x y) else eqD x y)),σ) else none))=_;rw [Option.bind_some,Option.bind_some,h,if_pos (show (true && true)=true from rfl),Q4 h];rfl
theorem A6n {l:List D}(h:okD 8 (.tup l)=true)(σ:Sto):AF .Eq (.d (.tup l)) (.d (.tup l)) σ = some (.d (.bool true),σ):=by
  show xEq false (.d (.tup l)) (.d (.tup l)) σ = _;show (Option.bind (some (D.tup l)) fun x=>(Option.bind (some (D.tup l)) fun y=>if (okD 8 x && okD 8 y)=true then some (AV.d (.bool (if false=true then !(eqD x y) else eqD x y)),σ) else none))=_;rw [Option.bind_some,Option.bind_some,h,if_pos (show (true && true)=true from rfl),Q4 h];rfl
theorem A6m {l:List D}{n:Nat}{σ:Sto}(hn:σ[n]? = some (.list (l.map .d)))(h:okD 8 (.lst l)=true):AF .Eq (.loc n) (.d (.lst l)) σ = some (.d (.bool true),σ):=by
  show xEq false (.loc n) (.d (.lst l)) σ = _;have hd:PM σ (.loc n)=some (.lst l):=by simp only [PM,AU,hn,Option.bind_some,C0,Option.map_some]
  unfold xEq;rw [hd,Option.bind_some];show (Option.bind (some (D.lst l)) fun y=>if (okD 8 (.lst l) && okD 8 y)=true then some (AV.d (.bool (if false=true then !(eqD (.lst l) y) else eqD (.lst l) y)),σ) else none)=_;rw [Option.bind_some,h,if_pos (show (true && true)=true from rfl),Q4 h];rfl
theorem A0n {R:D→TC→Prop}{g:TC→D}{fr:Lo}{xe:XE}{σ:Sto}(h:∀ a p,R a p→xe (some (.d a)::fr) σ = some (.d (g p),σ)){l:List D}{ps:List TC}(H:B1 R l ps):∀ acc:List AV,IU fr BD xe (l.map .d) σ acc=some (acc++(ps.map g).map .d,σ):=by
  induction H with
  | nil=>exact fun acc=>by simp [IU]
  | @cons a p l ps x r ih =>
    intro acc;rw [List.map_cons];unfold IU;refine e_b A6j (e_b (h a p x) ((ih _).trans ?_));rw [List.append_assoc];rfl
theorem A4M {R:D→TC→Prop}(g:TC→D){xi:XI}{fr:List Nat}{xe:XE}{ρ:Lo}{σ:Sto}{l:List D}{ps:List TC}(H:B1 R l ps)(hl:l.length≤100)(hi:xi ρ σ = some (GF (.d (.lst l)),σ))(h:∀ a p,R a p→xe (some (.d a)::(fr.map fun i=>(ρ[i]?).join)) σ = some (.d (g p),σ)) :
    C7 xi fr BD xe ρ σ = some (.loc σ.length,σ ++ [.list ((ps.map g).map .d)]):=by
  rw [MA hi (Md l) (by rw [List.length_map];omega),A0n h H []];rfl
theorem VO {R:D→TC→Prop}(g:TC→D){xi:XI}{fr:List Nat}{xe:XE}{ρ:Lo}{σ:Sto}{l:List D}{ps:List TC}(H:B1 R l ps)(hl:l.length≤100)(hi:xi ρ σ = some (GF (.d (.lst l)),σ))(h:∀ a p,R a p→xe (some (.d a)::(fr.map fun i=>(ρ[i]?).join)) σ = some (.d (g p),σ)) :
    xFz (C7 xi fr BD xe) ρ σ = some (.d (.lst (ps.map g)),σ ++ [.dead]):=VP (A4M g H hl hi h) IP
theorem asgS_eq {is:List Nat}{xa xb:XE}{ρ:Lo}{σ σ₁ σ₂:Sto}{a b:AV}(ha:xa ρ σ = some (a,σ₁))(hb:xb ρ σ₁ = some (b,σ₂))(hi:is.length=2):DJ is (A8 xa (A8 xb Af)) ρ σ = some (.next,D6 is.reverse [b,a] ρ,σ₂):=by
  unfold DJ;rw [A1e ha hb,Option.bind_some];dsimp only;rw [if_pos ⟨by rw [sizeLine_eq];simp,by rw [hi];rfl⟩];rfl
theorem A4i {T:List Addr}{name:Str}{xv xo:XE}{ρ:Lo}{σ σ₁ σ₂:Sto}{v:AV}{n:Nat}{C:Addr}{fs:List (Str×AV)}(hv:xv ρ σ = some (v,σ₁))(ho:xo ρ σ₁ = some (.loc n,σ₂))(hi:σ₂[n]? = some (.inst C fs))(hT:T.contains C=true)(hl:fs.length < 1000) :
    BL T name xv xo ρ σ = some (.next,ρ,σ₂.set n (.inst C (MP name v fs))):=by
  unfold BL;rw [hv,Option.bind_some];dsimp only;rw [ho,Option.bind_some];dsimp only;unfold WL;simp only [hi];rw [if_pos ⟨hT,hl⟩];rfl
theorem A6z {n:Nat}{σ:Sto}{A B C:AV}(h:σ[n]? = some (.inst 220 [])):KG [.loc n,A,B,C] σ = some (.d .none,((σ.set n (.inst 220 [(s!"kind",A)])).set n (.inst 220 [(s!"kind",A),(s!"locals",B)])).set n (.inst 220 [(s!"kind",A),(s!"locals",B),(s!"body",C)])):=by
  have h2:=Fg (o:=.inst 220 [(s!"kind",A)]) h;have h3:=Fg (o:=.inst 220 [(s!"kind",A),(s!"locals",B)]) h2;have p1:MP s!"kind" A []=[(s!"kind",A)]:=rfl;have p2:MP s!"locals" B [(s!"kind",A)]=[(s!"kind",A),(s!"locals",B)]:=by kernel_rfl
  have p3:MP s!"body" C [(s!"kind",A),(s!"locals",B)]=[(s!"kind",A),(s!"locals",B),(s!"body",C)]:=by kernel_rfl
  show By 4 0 Gc _ _=_;apply K8
  · rfl
  · unfold Gc
    erw [h,h2,h3,p1,p2,p3,← (by decide:(0:Nat) < 1000),← (by decide:(1:Nat) < 1000),← (by decide:(2:Nat) < 1000)]
  · rfl
theorem Q6 (ρ:Lo)(k:Int)(loc:List Int)(body:List D)(xs:XEs)(σ σ':Sto)(h:xs ρ σ = some ([.d (.int k),.d (ti loc),.d (.lst body)],σ')):xFz (Av xs GB) ρ σ = some (.d (fnD k loc body),σ'++[.dead]):=by
  have s1:∀ o p:SO,(σ'++[o]).set σ'.length p=σ'++[p]:=by intro o p;simp
  have hx:=A6z (A:=.d (.int k)) (B:=.d (ti loc)) (C:=.d (.lst body)) (Dp (σ:=σ') (o:=.inst 220 []));rw [s1,s1,s1] at hx;have hT:GB [.d (.int k),.d (ti loc),.d (.lst body)] σ'=some (.loc σ'.length,σ'++[.inst 220 [(s!"kind",.d (.int k)),(s!"locals",.d (ti loc)),(s!"body",.d (.lst body))]]):=e_b hx rfl;refine e_Fz (Xo h hT) ?_;unfold frz;simp only [Dp,fsD,Option.map_some,s1]
theorem A4k {l:List D}(h:l.length≤63)(σ:Sto):Ie true (.d (.lst l)) (.d .none) (.d (.int 63)) σ = some (.d (.lst l),σ):=by
  show (if (l.map AV.d).length≤sizeLine then (Ez (Gv (l.map AV.d) none (some 63))).map (fun ds=>(AV.d (.lst ds),σ)) else none)=_;have e:Gv (l.map AV.d) none (some 63)=l.map AV.d:=by
    unfold Gv;have h1:kms_lo none (l.map AV.d).length=0:=rfl;have h2:kms_hi (some 63) (l.map AV.d).length=l.length:=by
      unfold kms_hi;show (if (63:Int) < 0 then _ else min (63:Int).toNat (l.map AV.d).length)=_;rw [if_neg (by decide),List.length_map];show min 63 l.length=_;omega
    rw [h1,h2,List.drop_zero,Nat.sub_zero,List.take_of_length_le (by rw [List.length_map];exact Nat.le_refl _)]
  rw [if_pos (by rw [sizeLine_eq,List.length_map];omega),e,C0];rfl
theorem YR {l:List D}(h:l.length≤16777216)(σ:Sto):BW [.d (.lst l)] σ = some (.d (.int (l.length:Int)),σ):=by
  show (if (l.map AV.d).length≤sizeLine then some (AV.d (.int ((l.map AV.d).length:Int)),σ) else none)=_;rw [List.length_map,sizeLine_eq,if_pos h]
theorem if_t {xt:XT}{xa xb:XE}{ρ:Lo}{σ σ₁:Sto}{r:Option (AV×Sto)}(h:xt ρ σ = some (true,σ₁))(k:xa ρ σ₁ = r):xIf xt xa xb ρ σ = r:=by
  unfold xIf;rw [h];exact k
theorem if_f {xt:XT}{xa xb:XE}{ρ:Lo}{σ σ₁:Sto}{r:Option (AV×Sto)}(h:xt ρ σ = some (false,σ₁))(k:xb ρ σ₁ = r):xIf xt xa xb ρ σ = r:=by
  unfold xIf;rw [h];exact k
noncomputable abbrev Co (s:List Int):D:=.lst (s.map .int)
theorem A1v (s:List Int)(hs:s.length≤63)(r:Lo)(σ:Sto):∃ F:Int,Bm 1 (xIf (xTr (Ai (AF .NotEq) (Aa 0) (AJ Af))) (Av (A8 (Ai AE (Aa 0) (xD (.int 0))) Af) WM) (xD (.int 0))) (some (.d (Co s))::none::r) σ = some (.next,some (.d (Co s))::some (.d (.int F))::r,σ):=by
  have v0:Aa 0 (some (.d (Co s))::none::r) σ = some (.d (Co s),σ):=rfl;have n0:AJ Af (some (.d (Co s))::none::r) σ = some (.d (.lst []),σ):=rfl;cases s with
  | nil =>
    refine ⟨0,M6 (if_f (WC (Ej v0 n0 ?_)) rfl)⟩;exact Ui rfl σ
  | cons a s =>
    have hne:AF .NotEq (.d (Co (a::s))) (.d (.lst [])) σ = some (.d (.bool true),σ):=by
      show (Option.bind (some (Co (a::s))) fun x=>(Option.bind (some (D.lst [])) fun y=>if (okD 8 x && okD 8 y)=true then some (AV.d (.bool (if true=true then !(eqD x y) else eqD x y)),σ) else none))=_;have ho:okD 8 (Co (a::s))=true:=by
        show ((a::s).map D.int).all (okD 7)=true;rw [List.all_map,List.all_eq_true];intro i _;exact A4h 7 i
      have h0:okD 8 (.lst [])=true:=rfl;rw [Option.bind_some,Option.bind_some,ho,h0,if_pos (show (true && true)=true from rfl)];rfl
    have g:=MH (l:=(a::s).map D.int) (i:=0) (x:=.int a) rfl (by decide) σ;exact ⟨_,M6 (if_t (WC (Ej v0 n0 hne)) (Fw (Ej v0 (rfl:xD (.int 0) _ _=some (.d (.int 0),σ)) g) rfl))⟩
noncomputable def m0:List (Str×AV):=[(s!"kinds",.d (.lst [])),(s!"imports",.d (.lst [])),(s!"funcs",.d (.lst [])),(s!"tables",.d (.lst [])),(s!"memories",.d (.lst [])),(s!"globals",.d (.lst [])),(s!"exports",.d (.lst [])),(s!"start",.d .none),(s!"elems",.d (.lst [])),(s!"datas",.d (.lst [])),(s!"customs",.d (.lst []))]
theorem A2M (sc:AV)(F:Int):Za [2,3,4] (A8 (AJ (A8 (Ai Ch (Aa 1) (xD (.int 4))) (A8 (xD (.int 0)) (A8 (Ai Ch (Ai JC (Aa 1) (xD (.int 4))) (xD (.int 4))) (A8 (xD (.int 9)) Af))))) (A8 (BX Af) (A8 (Av Af QX) Af))) [some sc,some (.d (.int F)),none,none,none,none,none,none,none,none,none,none,none,none] []=some (.next,[some sc,some (.d (.int F)),some (.d (G4 (F.fmod 4) ((F.fdiv 4).fmod 4))),some (.loc 0),some (.loc 1),none,none,none,none,none,none,none,none,none],[.list [],.inst 443 m0]):=by kernel_rfl
noncomputable def OY:XS:=(Al (Bm 6 (Av (A8 (Ai AH (xIf (xTr (Ai (AF .Lt) (Ai AH (Aa 5) (xD (.int 1))) (Av (A8 (Aa 0) Af) BW))) (Ai AE (Aa 0) (Ai AH (Aa 5) (xD (.int 1)))) (xD (.int 0))) (Ai Lz (xD (.int 31)) (Aa 5))) Af) WM)) (Al (Bm 7 (Av (A8 (Ai JC (Aa 6) (xD (.int 50))) Af) Hr)) (Al (xSt (xMt (CR Hx) (Aa 3) (A8 (Ai AE (Aa 7) (Ai Ch (Aa 6) (xD (.int 50)))) Af))) Am)))
theorem mul31 (i:Nat)(σ:Sto):Lz (.d (.int 31)) (.d (.int (i:Int))) σ = some (.d (.int (31 * (i:Int))),σ):=by
  rw [A7v];have:Q8 31 (i:Int)=true:=by
    unfold Q8;have h:decide (Builtin.Int.intBits 31 > shortFactorBits)=false:=by decide +kernel
    rw [h];rfl
  rw [if_pos this]
set_option tactic.hygienic true in
theorem A17 (s:List Int)(hs:s.length≤63)(F:Int)(fns m:AV)(i:Nat)(hi:i < 100)(acc:List D)(ha:acc.length≤100) (x6 x7:Option AV)(r:Lo)(inst:SO) :
    ∃ (X:Int) (op:D),op∈Iv (X.fdiv 50)∧OY (some (.d (Co s))::some (.d (.int F))::some fns::some (.loc 0)::some m::some (.d (.int (i:Int)))::x6::x7::r) [.list (acc.map .d),inst]=some (.next,some (.d (Co s))::some (.d (.int F))::some fns::some (.loc 0)::some m::some (.d (.int (i:Int)))::some (.d (.int X))::some (.d (.lst (Iv (X.fdiv 50))))::r,[.list ((acc++[op]).map .d),inst]):=by
  have hl:=YR (l:=s.map D.int) (by rw [List.length_map];omega) [.list (acc.map .d),inst];rw [List.length_map] at hl;have v0:Aa 0 (some (.d (Co s))::some (.d (.int F))::some fns::some (.loc 0)::some m::some (.d (.int (i:Int)))::x6::x7::r) [.list (acc.map .d),inst]=some (.d (Co s),[.list (acc.map .d),inst]):=rfl;have v5:Aa 5 (some (.d (Co s))::some (.d (.int F))::some fns::some (.loc 0)::some m::some (.d (.int (i:Int)))::x6::x7::r) [.list (acc.map .d),inst]=some (.d (.int (i:Int)),[.list (acc.map .d),inst]):=rfl;have k1:Ai AH (Aa 5) (xD (.int 1)) (some (.d (Co s))::some (.d (.int F))::some fns::some (.loc 0)::some m::some (.d (.int (i:Int)))::x6::x7::r) [.list (acc.map .d),inst]=some (.d (.int ((i+1:Nat):Int)),[.list (acc.map .d),inst]):=Ej v5 (rfl:xD (.int 1) _ _=some (.d (.int 1),_)) rfl;have lt:∀ b:Bool,decide (((i+1:Nat):Int) < (s.length:Int))=b→xTr (Ai (AF .Lt) (Ai AH (Aa 5) (xD (.int 1))) (Av (A8 (Aa 0) Af) BW)) (some (.d (Co s))::some (.d (.int F))::some fns::some (.loc 0)::some m::some (.d (.int (i:Int)))::x6::x7::r) [.list (acc.map .d),inst]=some (b,[.list (acc.map .d),inst]):=fun b hb=>WC (Ej k1 (Fw v0 hl) (by rw [p_lt,hb]));obtain ⟨v,hv⟩:∃ v:Int,xIf (xTr (Ai (AF .Lt) (Ai AH (Aa 5) (xD (.int 1))) (Av (A8 (Aa 0) Af) BW))) (Ai AE (Aa 0) (Ai AH (Aa 5) (xD (.int 1)))) (xD (.int 0)) (some (.d (Co s))::some (.d (.int F))::some fns::some (.loc 0)::some m::some (.d (.int (i:Int)))::x6::x7::r) [.list (acc.map .d),inst]=some (.d (.int v),[.list (acc.map .d),inst]):=by
    by_cases h:i+1 < s.length
    · have hg:(s.map D.int)[i+1]? = some (.int s[i+1]):=by rw [List.getElem?_map,List.getElem?_eq_getElem h];rfl
      exact ⟨_,if_t (lt true (decide_eq_true (by omega))) (Ej v0 k1 (MH hg (by omega) _))⟩
    · exact ⟨0,if_f (lt false (decide_eq_false (by omega))) rfl⟩
  have s1:=M6 (i:=6) (Fw (y:=WM) (Ej (g:=AH) hv (Ej (g:=Lz) (rfl:xD (.int 31) _ _=some (.d (.int 31),_)) v5 (mul31 i _)) (A7s)) rfl);generalize hX:(if v+31 * (i:Int) < 0 then -(v+31 * (i:Int)) else v+31 * (i:Int))=X at s1;have s1':Bm 6 (Av (A8 (Ai AH (xIf (xTr (Ai (AF .Lt) (Ai AH (Aa 5) (xD (.int 1))) (Av (A8 (Aa 0) Af) BW))) (Ai AE (Aa 0) (Ai AH (Aa 5) (xD (.int 1)))) (xD (.int 0))) (Ai Lz (xD (.int 31)) (Aa 5))) Af) WM) (some (.d (Co s))::some (.d (.int F))::some fns::some (.loc 0)::some m::some (.d (.int (i:Int)))::x6::x7::r) [.list (acc.map .d),inst]=some (.next,some (.d (Co s))::some (.d (.int F))::some fns::some (.loc 0)::some m::some (.d (.int (i:Int)))::some (.d (.int X))::x7::r,[.list (acc.map .d),inst]):=s1;have v6:Aa 6 (some (.d (Co s))::some (.d (.int F))::some fns::some (.loc 0)::some m::some (.d (.int (i:Int)))::some (.d (.int X))::x7::r) [.list (acc.map .d),inst]=some (.d (.int X),[.list (acc.map .d),inst]):=rfl;have s2:Bm 7 (Av (A8 (Ai JC (Aa 6) (xD (.int 50))) Af) Hr) (some (.d (Co s))::some (.d (.int F))::some fns::some (.loc 0)::some m::some (.d (.int (i:Int)))::some (.d (.int X))::x7::r) [.list (acc.map .d),inst]=some (.next,some (.d (Co s))::some (.d (.int F))::some fns::some (.loc 0)::some m::some (.d (.int (i:Int)))::some (.d (.int X))::some (.d (.lst (Iv (X.fdiv 50))))::r,[.list (acc.map .d),inst]):=
    M6 (i:=7) (Fw (Ej v6 (rfl:xD (.int 50) _ _=some (.d (.int 50),_)) (A7t.trans (if_neg (by decide)))) (A39 _ _))
  have h1:=Int.fmod_nonneg_of_pos X (b:=50) (by decide);have h2:=Int.fmod_lt_of_pos X (b:=50) (by decide);obtain ⟨j,hj⟩:=Int.eq_ofNat_of_zero_le h1;have hj50:j < (Iv (X.fdiv 50)).length:=by show j < 50;omega
  have hop:(Iv (X.fdiv 50))[j]? = some ((Iv (X.fdiv 50))[j]'hj50):=List.getElem?_eq_getElem hj50;generalize hopn:((Iv (X.fdiv 50))[j]'hj50)=op at hop;have hmem:op∈Iv (X.fdiv 50):=List.mem_of_getElem? hop;refine ⟨X,op,hmem,?_⟩;have hg:=MH hop (by omega) [.list (acc.map .d),inst];generalize Iv (X.fdiv 50)=ml at s2 hg ⊢;have v6':Aa 6 (some (.d (Co s))::some (.d (.int F))::some fns::some (.loc 0)::some m::some (.d (.int (i:Int)))::some (.d (.int X))::some (.d (.lst ml))::r) [.list (acc.map .d),inst]=some (.d (.int X),[.list (acc.map .d),inst]):=rfl;have v7:Aa 7 (some (.d (Co s))::some (.d (.int F))::some fns::some (.loc 0)::some m::some (.d (.int (i:Int)))::some (.d (.int X))::some (.d (.lst ml))::r) [.list (acc.map .d),inst]=some (.d (.lst ml),[.list (acc.map .d),inst]):=rfl;have v3:Aa 3 (some (.d (Co s))::some (.d (.int F))::some fns::some (.loc 0)::some m::some (.d (.int (i:Int)))::some (.d (.int X))::some (.d (.lst ml))::r) [.list (acc.map .d),inst]=some (.loc 0,[.list (acc.map .d),inst]):=rfl;have ap:=A5Q (σ:=[.list (acc.map .d),inst]) (n:=0) (x:=.d op) rfl (by rw [List.length_map];omega);have hm:Ai Ch (Aa 6) (xD (.int 50)) (some (.d (Co s))::some (.d (.int F))::some fns::some (.loc 0)::some m::some (.d (.int (i:Int)))::some (.d (.int X))::some (.d (.lst ml))::r) [.list (acc.map .d),inst]=some (.d (.int (j:Int)),[.list (acc.map .d),inst]):=Ej v6' (rfl:xD (.int 50) _ _=some (.d (.int 50),_)) (by rw [A7u,if_neg (by decide),hj]);have s3:=A4o (A7f v3 (asL (σ:=[.list (acc.map .d),inst]) (n:=0) rfl) (A4N (Ej v7 hm hg)) ap);show Al _ (Al _ (Al _ _)) _ _=_;rw [C3 s1',C3 s2];refine s3.trans ?_;rw [List.map_append];rfl
noncomputable abbrev aF (F:Int):Int:=F.fmod 4
noncomputable abbrev bF (F:Int):Int:=(F.fdiv 4).fmod 4
theorem A36 (s:List Int)(hs:s.length≤63)(F:Int):∃ (ops:List D) (x5 x6 x7:Option AV),(∀ op∈ops,∀ OPS,∃ tx cn,UZ (aF F) (bF F) OPS op tx cn)∧ops.length≤16 ∧
    DL (Ic (Av (A8 (xD (.int 3)) (A8 (Av (A8 (xD (.int 16)) (A8 (Ai J2 (Av (A8 (Aa 0) Af) BW) (xD (.int 1))) Af)) Ym) Af)) Yl)) (BN 5) OY [some (.d (Co s)),some (.d (.int F)),some (.d (G4 (aF F) (bF F))),some (.loc 0),some (.loc 1),none,none,none,none,none,none,none,none,none] [.list [],.inst 443 m0] =
      some (.next,[some (.d (Co s)),some (.d (.int F)),some (.d (G4 (aF F) (bF F))),some (.loc 0),some (.loc 1),x5,x6,x7,none,none,none,none,none,none],[.list (ops.map .d),.inst 443 m0]):=by
  obtain ⟨N,hN,hr⟩:∃ N:Nat,N≤16∧Ic (Av (A8 (xD (.int 3)) (A8 (Av (A8 (xD (.int 16)) (A8 (Ai J2 (Av (A8 (Aa 0) Af) BW) (xD (.int 1))) Af)) Ym) Af)) Yl) [some (.d (Co s)),some (.d (.int F)),some (.d (G4 (aF F) (bF F))),some (.loc 0),some (.loc 1),none,none,none,none,none,none,none,none,none] [.list [],.inst 443 m0]=some (HJ (N:Int),[.list [],.inst 443 m0]):=by
    have hl:=YR (l:=s.map D.int) (by rw [List.length_map];omega) [.list [],.inst 443 m0];rw [List.length_map] at hl;have e1:Ai J2 (Av (A8 (Aa 0) Af) BW) (xD (.int 1)) [some (.d (Co s)),some (.d (.int F)),some (.d (G4 (aF F) (bF F))),some (.loc 0),some (.loc 1),none,none,none,none,none,none,none,none,none] [.list [],.inst 443 m0]=some (.d (.int ((s.length:Int) - 1)),[.list [],.inst 443 m0]):=
      Ej (Fw (rfl:Aa 0 _ _=some (.d (Co s),_)) hl) (rfl:xD (.int 1) _ _=some (.d (.int 1),_)) rfl
    have hmin:∀ σ:Sto,Ym [.d (.int 16),.d (.int ((s.length:Int) - 1))] σ = some (.d (.int (if (s.length:Int) - 1 < 16 then (s.length:Int) - 1 else 16)),σ):=fun ξ=>rfl;have e2:=Vp (f:=Ym) (rfl:xD (.int 16) [some (.d (Co s)),some (.d (.int F)),some (.d (G4 (aF F) (bF F))),some (.loc 0),some (.loc 1),none,none,none,none,none,none,none,none,none] _=some (.d (.int 16),[.list [],.inst 443 m0])) e1 (hmin _);generalize hm:(if (s.length:Int) - 1 < 16 then (s.length:Int) - 1 else 16)=m at e2;have hm16:m≤16:=by rw [← hm];split <;> omega
    have hmax:∀ σ:Sto,Yl [.d (.int 3),.d (.int m)] σ = some (.d (.int (if m > 3 then m else 3)),σ):=fun ξ=>rfl;have e3:=Vp (f:=Yl) (rfl:xD (.int 3) [some (.d (Co s)),some (.d (.int F)),some (.d (G4 (aF F) (bF F))),some (.loc 0),some (.loc 1),none,none,none,none,none,none,none,none,none] _=some (.d (.int 3),[.list [],.inst 443 m0])) e2 (hmax _);obtain ⟨N,hN⟩:∃ N:Nat,(if m > 3 then m else 3)=(N:Int):=⟨(if m > 3 then m else 3).toNat,by split <;> omega⟩;have:(N:Int)≤16:=by rw [← hN];split <;> omega
    refine ⟨N,by omega,?_⟩;rw [hN] at e3;exact Wo e3 (by omega) (by rw [← hN];split <;> omega)
  obtain ⟨ρ',σ',e,i,ops,x5,x6,x7,h1,h2,h3,h4,rfl,rfl⟩:=QU (asg:=BN 5) (body:=OY) ((List.range N).map fun (i:Nat)=>AV.d (.int (i:Int)))
    (fun r ρ σ=>∃ (i:Nat) (ops:List D) (x5 x6 x7:Option AV),r=(List.range' i (N - i)).map (fun (i:Nat)=>AV.d (.int (i:Int)))∧i≤N∧ops.length=i∧(∀ op∈ops,∀ OPS,∃ tx cn,UZ (aF F) (bF F) OPS op tx cn)∧ρ = [some (.d (Co s)),some (.d (.int F)),some (.d (G4 (aF F) (bF F))),some (.loc 0),some (.loc 1),x5,x6,x7,none,none,none,none,none,none]∧σ = [.list (ops.map .d),.inst 443 m0]) hr
    (fun ρ σ i ξ=>Wv N i σ)
    (by
      rintro a r ρ σ ⟨i,ops,x5,x6,x7,h1,h2,h3,h4,rfl,rfl⟩
      by_cases hi:i=N
      · rw [hi,Nat.sub_self] at h1;cases h1
      · have hk:N - i=(N - (i+1))+1:=by omega
        rw [hk,List.range'_succ] at h1;obtain ⟨rfl,rfl⟩:=List.cons.inj h1;obtain ⟨X,op,hop,he⟩:=A17 s hs F (.d (G4 (aF F) (bF F))) (.loc 1) i (by omega) ops (by omega) x6 x7 [none,none,none,none,none,none] (.inst 443 m0);refine ⟨[some (.d (Co s)),some (.d (.int F)),some (.d (G4 (aF F) (bF F))),some (.loc 0),some (.loc 1),some (.d (.int (i:Int))),x6,x7,none,none,none,none,none,none],_,_,_,rfl,he,i+1,ops++[op],_,_,_,rfl,by omega,by rw [List.length_append,h3];rfl,?_,rfl,rfl⟩;intro o ho OPS;rcases List.mem_append.mp ho with ho | ho
        · exact h4 o ho OPS
        · rw [List.mem_singleton.mp ho]
          exact ZX OPS F (F.fdiv 4) _ op hop)
    (by rw [List.length_map,List.length_range];omega) ⟨0,[],none,none,none,by rw [List.range_eq_range',Nat.sub_zero],Nat.zero_le _,rfl,fun ξ h=>(nomatch h),rfl,rfl⟩
  exact ⟨ops,x5,x6,x7,h4,by omega,e⟩
theorem PI {a b:Int}{OPS:List D}:∀ {l:List D},(∀ op∈l,∃ tx cn,UZ a b OPS op tx cn)→∃ tcs,Ops a b OPS l tcs
  | [],_=>⟨[],.nil⟩
  | op::l,h=>by
    obtain ⟨tx,cn,h1⟩:=h op (.head _);obtain ⟨tcs,h2⟩:=PI fun o ho=>h o (.tail _ ho);exact ⟨(tx,cn)::tcs,.cons h1 h2⟩
theorem A2n {a b:Int}{OPS:List D}{l:List D}{tcs:List TC}(H:Ops a b OPS l tcs):(∀ p∈tcs,good p.1=true)∧∀ op∈l,opF op=true:=by
  induction H with
  | nil=>exact ⟨fun ξ h=>(nomatch h),fun ξ h=>(nomatch h)⟩
  | cons h r ih =>
    refine ⟨fun p hp=>?_,fun o ho=>?_⟩
    · rcases List.mem_cons.mp hp with rfl | hp
      · exact h.gd
      · exact ih.1 p hp
    · rcases List.mem_cons.mp ho with rfl | ho
      · exact h.fm
      · exact ih.2 o ho
noncomputable def m1:List (Str×AV):=(s!"kinds",.d (.lst DW))::m0.tail
noncomputable def m2 (a:Int):List (Str×AV):=(s!"kinds",.d (.lst DW))::(s!"imports",.d (.lst [A1M a]))::m0.tail.tail
noncomputable def m3 (a b:Int)(ops:List D):List (Str×AV):=(s!"kinds",.d (.lst DW))::(s!"imports",.d (.lst [A1M a]))::(s!"funcs",.d (.lst [fn0 ops,fn1 b,fn2]))::m0.tail.tail.tail
theorem A1I {i:Nat}{x:XS}{ρ:Lo}{σ σ':Sto}{a:AV}{d:D}(h:ρ[i]? = some (some a))(k:frz a σ = some (d,σ')):Mi i x ρ σ = x (ρ.set i (some (.d d))) σ':=by
  unfold Mi;simp only [h];rw [k];rfl
section
variable (sc fi:AV)(a b:Int)(ops:List D) (x5 x6 x7:Option AV)(r:Lo)
theorem ZU:BL [443] s!"kinds" (xFz (Av (A8 (xD BR) Af) Zc)) (Aa 4) (some sc::some fi::some (.d (G4 a b))::some (.d (.lst ops))::some (.loc 1)::r) [.dead,.inst 443 m0]=some (.next,some sc::some fi::some (.d (G4 a b))::some (.d (.lst ops))::some (.loc 1)::r,[.dead,.inst 443 m1,.dead]):=by kernel_rfl
theorem VT:BL [443] s!"imports" (AJ (A8 (xFz (Av (A8 (xD (.str s!"h")) (A8 (xD (.str s!"f")) (A8 (xD (.int 0)) (A8 (Ai AE (Aa 2) (xD (.int 0))) Af)))) QW)) Af)) (Aa 4) (some sc::some fi::some (.d (G4 a b))::some (.d (.lst ops))::some (.loc 1)::r) [.dead,.inst 443 m1,.dead]=some (.next,some sc::some fi::some (.d (G4 a b))::some (.d (.lst ops))::some (.loc 1)::r,[.dead,.inst 443 (m2 a),.dead,.dead]):=by kernel_rfl
theorem YF {x y z:XE}{ρ:Lo}{σ σ₁ σ₂ σ₃:Sto}{p q w:AV}(h:x ρ σ = some (p,σ₁))(k:y ρ σ₁ = some (q,σ₂))(l:z ρ σ₂ = some (w,σ₃)):A8 x (A8 y (A8 z Af)) ρ σ = some ([p,q,w],σ₃):=by
  have:=A1e k l;unfold A8 at this ⊢;rw [h,Option.bind_some];dsimp only at this ⊢;rw [this];rfl
theorem A2a {xs:XEs}{ρ:Lo}{σ σ₁:Sto}{l:List D}(h:xs ρ σ = some (l.map AV.d,σ₁))(hl:l.length≤100):AJ xs ρ σ = some (.d (.lst l),σ₁):=by
  unfold AJ;rw [h,Option.bind_some];dsimp only;rw [C0,Option.bind_some,if_pos (by rw [sizeLine_eq];omega)]
theorem ZP (hl:ops.length≤100):BL [443] s!"funcs" (AJ (A8 (xFz (Av (A8 (xD (.int 0)) (A8 (B2 (A8 (ED (xD (.int 1))) (A8 (ED (xD (.int 2))) Af))) (A8 (xFz (Ai AH (Aa 3) (AJ (A8 (B2 (A8 (xD (.int 11)) Af)) Af)))) Af))) GB)) (A8 (xFz (Av (A8 (Ai AE (Aa 2) (xD (.int 2))) (A8 (B2 Af) (A8 (AJ (A8 (B2 (A8 (xD (.int 11)) Af)) Af)) Af))) GB)) (A8 (xFz (Av (A8 (xD (.int 9)) (A8 (B2 Af) (A8 (AJ (A8 (B2 (A8 (xD (.int 11)) Af)) Af)) Af))) GB)) Af)))) (Aa 4) (some sc::some fi::some (.d (G4 a b))::some (.d (.lst ops))::some (.loc 1)::r) [.dead,.inst 443 (m2 a),.dead,.dead]=some (.next,some sc::some fi::some (.d (G4 a b))::some (.d (.lst ops))::some (.loc 1)::r,[.dead,.inst 443 (m3 a b ops),.dead,.dead,.dead,.dead,.dead,.dead]):=by
  generalize hρ:(some sc::some fi::some (.d (G4 a b))::some (.d (.lst ops))::some (.loc 1)::r:Lo)=ρ;have v3:∀ σ:Sto,Aa 3 ρ σ = some (.d (.lst ops),σ):=fun σ=>by rw [← hρ];rfl
  have v4:∀ σ:Sto,Aa 4 ρ σ = some (.loc 1,σ):=fun σ=>by rw [← hρ];rfl
  have g2:∀ σ:Sto,Ai AE (Aa 2) (xD (.int 2)) ρ σ = some (.d (.int b),σ):=fun σ=>by rw [← hρ];rfl
  have e11:∀ σ:Sto,AJ (A8 (B2 (A8 (xD (.int 11)) Af)) Af) ρ σ = some (.d (.lst [ti [11]]),σ):=fun σ=>rfl;have t0:∀ σ:Sto,B2 Af ρ σ = some (.d (ti []),σ):=fun σ=>rfl;have t12:∀ σ:Sto,B2 (A8 (ED (xD (.int 1))) (A8 (ED (xD (.int 2))) Af)) ρ σ = some (.d (ti [-1,-2]),σ):=fun σ=>rfl;have c0:=YF (rfl:xD (.int 0) ρ [.dead,.inst 443 (m2 a),.dead,.dead]=some (.d (.int 0),_)) (t12 _) (LV (v3 _) (e11 _) (by simp only [List.length_singleton];omega));have f0:=Q6 ρ 0 [-1,-2] (ops++[ti [11]]) _ _ _ c0;have f1:=Q6 ρ b [] [ti [11]] _ _ _ (YF (g2 ([.dead,.inst 443 (m2 a),.dead,.dead]++[.dead]++[.dead])) (t0 _) (e11 _));have f2:=Q6 ρ 9 [] [ti [11]] _ _ _ (YF (rfl:xD (.int 9) ρ ([.dead,.inst 443 (m2 a),.dead,.dead]++[.dead]++[.dead]++[.dead])=some (.d (.int 9),_)) (t0 _) (e11 _));have c3:=YF f0 f1 f2;have hv:AJ (A8 (xFz (Av (A8 (xD (.int 0)) (A8 (B2 (A8 (ED (xD (.int 1))) (A8 (ED (xD (.int 2))) Af))) (A8 (xFz (Ai AH (Aa 3) (AJ (A8 (B2 (A8 (xD (.int 11)) Af)) Af)))) Af))) GB)) (A8 (xFz (Av (A8 (Ai AE (Aa 2) (xD (.int 2))) (A8 (B2 Af) (A8 (AJ (A8 (B2 (A8 (xD (.int 11)) Af)) Af)) Af))) GB)) (A8 (xFz (Av (A8 (xD (.int 9)) (A8 (B2 Af) (A8 (AJ (A8 (B2 (A8 (xD (.int 11)) Af)) Af)) Af))) GB)) Af))) ρ [.dead,.inst 443 (m2 a),.dead,.dead]=some (.d (.lst [fn0 ops,fn1 b,fn2]),[.dead,.inst 443 (m2 a),.dead,.dead,.dead,.dead,.dead,.dead]):=by
    exact A2a (l:=[fn0 ops,fn1 b,fn2]) c3 (by simp)
  rw [A4i hv (v4 _) rfl (by decide) (by show (11:Nat) < 1000;decide)];have:MP s!"funcs" (.d (.lst [fn0 ops,fn1 b,fn2])) (m2 a)=m3 a b ops:=by kernel_rfl
  rw [this];rfl
theorem A4b:frz (.loc 1) [.dead,.inst 443 (m3 a b ops),.dead,.dead,.dead,.dead,.dead,.dead]=some (Ce a b ops,[.dead,.dead,.dead,.dead,.dead,.dead,.dead,.dead]):=by kernel_rfl
end
theorem A7q (n:Nat)(c:Option (Nat×Nat)):okD (n+1) (cnD c)=true:=by
  cases c with
  | none=>rfl
  | some pq=>obtain (⟨p,q⟩):=pq;cases n <;> rfl
theorem A0e {a b:Int}{ops:List D}(h:∀ op∈ops,opF op=true):okD 8 (Uu a b ops)=true:=by
  have ho:(ops++[ti [11]]).all (okD 4)=true:=by
    rw [List.all_append,Bool.and_eq_true,List.all_eq_true];refine ⟨fun o ho=>A7r (h o ho) 3,?_⟩;rfl
  have hf:okD 6 (fnT 0 [-1,-2] (ops++[ti [11]]))=true:=by
    show (okD 5 (.int 0) && (okD 5 (ti [-1,-2]) && ((ops++[ti [11]]).all (okD 4) && true)))=true;rw [ho];rfl
  have hp:okD 7 (Gu b ops)=true:=by
    show (okD 6 (fnT 0 [-1,-2] (ops++[ti [11]])) && (okD 6 (fnT b [] [ti [11]]) && (okD 6 (fnT 9 [] [ti [11]]) && true)))=true;rw [hf];rfl
  show (okD 7 (.tup DW) && (okD 7 (.tup [OA a]) && (okD 7 (Gu b ops) && ([D.tup [],.tup [],.tup [],.tup [],.none,.tup [],.tup [],.tup []].all (okD 7)))))=true;have hk:okD 7 (.tup DW)=true:=by kernel_rfl
  have hi:okD 7 (.tup [OA a])=true:=by kernel_rfl
  rw [hp,hk,hi];rfl
theorem SM {l:List Str}(h:∀ t∈l,t.cps.all (· < 0x110000)=true):okD 8 (.lst (l.map sD))=true:=by
  show (l.map sD).all (okD 7)=true;rw [List.all_map,List.all_eq_true];intro t ht;exact h t ht
noncomputable def WA:XS:=(Al (DJ [8,9] (A8 (xMt (Bz s!"plain" (mC 443 BP mN)) (Aa 4) Af) (A8 (xFz (C7 (xIt (Aa 3)) [4] BD (Av (A8 (Aa 1) (A8 (Aa 0) Af)) BB))) Af))) (Al (Bm 10 (C7 (xIt (Aa 3)) [2] BD (Av (A8 (Aa 0) (A8 (Aa 1) Af)) CV))) (Mi 10 (Al (AO (DM (xTr (Ai (AF .NotEq) (xFz (C7 (xIt (Aa 3)) [4] BD (Av (A8 (Aa 1) (A8 (Aa 0) Af)) C9))) (Aa 10))) (DM (xTr (Ai (AF .NotEq) (Av (A8 (Av (A8 (Aa 4) Af) Dk) Af) BZ) (Aa 9))) E1)) (Al (B8 (xD (.bool false))) Am) Am) (Al (DJ [11,12] (A8 (Av (A8 (Av (A8 (Aa 4) Af) Dx) Af) BZ) (A8 (BX Af) Af))) (Al (AO (xTr (Ai (AF .NotEq) (Aa 11) (Av (A8 (Aa 9) (A8 (Aa 10) Af)) Ef))) (Al (B8 (xD (.bool false))) Am) Am) (Al (DL (xIt (Aa 11)) (BN 13) (Al (xSt (xMt (CR Hq) (Aa 12) (A8 (Av (A8 (Aa 13) Af) E9) Af))) Am)) (Al (B8 (N8 (Ai (AF .Eq) (Aa 12) (Aa 9)) (Ai (AF .Eq) (xMt (Bz s!"plain" (mC 443 BP mN)) (Aa 4) Af) (Aa 8)))) Am))))))))
theorem mtU_eq {name:Str}{X:List (Addr×XC)}{y:XC}{xo:XE}{ρ:Lo}{σ σ₁:Sto}{a:AV}{r:Option (AV×Sto)}(ho:xo ρ σ = some (a,σ₁))(hm:Bz name X a σ₁ = some y)(hy:y [a] σ₁ = r):xMt (Bz name X) xo Af ρ σ = r:=by
  unfold xMt;rw [ho,Option.bind_some];dsimp only;rw [hm,Option.bind_some];exact hy
theorem band_t {xa xb:XE}{ρ:Lo}{σ σ₁:Sto}{r:Option (AV×Sto)}(h:xa ρ σ = some (.d (.bool true),σ₁))(k:xb ρ σ₁ = r):N8 xa xb ρ σ = r:=by
  unfold N8;rw [h];exact k
noncomputable def tlP:XE:=(xFz (C7 (xIt (Aa 3)) [4] BD (Av (A8 (Aa 1) (A8 (Aa 0) Af)) BB)))
noncomputable def tlL:XE:=(C7 (xIt (Aa 3)) [2] BD (Av (A8 (Aa 0) (A8 (Aa 1) Af)) CV))
noncomputable def tlC:XE:=(xFz (C7 (xIt (Aa 3)) [4] BD (Av (A8 (Aa 1) (A8 (Aa 0) Af)) C9)))
noncomputable def tlB:XS:=(Al (xSt (xMt (CR Hq) (Aa 12) (A8 (Av (A8 (Aa 13) Af) E9) Af))) Am)
noncomputable def tlF:XS:=DL (xIt (Aa 11)) (BN 13) tlB
theorem A0r:WA=(Al (DJ [8,9] (A8 (xMt (Bz s!"plain" (mC 443 BP mN)) (Aa 4) Af) (A8 tlP Af))) (Al (Bm 10 tlL) (Mi 10 (Al (AO (DM (xTr (Ai (AF .NotEq) tlC (Aa 10))) (DM (xTr (Ai (AF .NotEq) (Av (A8 (Av (A8 (Aa 4) Af) Dk) Af) BZ) (Aa 9))) E1)) (Al (B8 (xD (.bool false))) Am) Am) (Al (DJ [11,12] (A8 (Av (A8 (Av (A8 (Aa 4) Af) Dx) Af) BZ) (A8 (BX Af) Af))) (Al (AO (xTr (Ai (AF .NotEq) (Aa 11) (Av (A8 (Aa 9) (A8 (Aa 10) Af)) Ef))) (Al (B8 (xD (.bool false))) Am) Am) (Al tlF (Al (B8 (N8 (Ai (AF .Eq) (Aa 12) (Aa 9)) (Ai (AF .Eq) (xMt (Bz s!"plain" (mC 443 BP mN)) (Aa 4) Af) (Aa 8)))) Am)))))))):=rfl
section
variable {sc fi F O M Pl T1 T2:AV} {x5 x6 x7:Option AV}{Td Cd Rd:D}{L:List AV}{cs:List D}{σ:Sto}
noncomputable abbrev tlR (sc fi F O M:AV) (x5 x6 x7 y8 y9 y10 y11 y12 y13:Option AV):Lo:=[some sc,some fi,some F,some O,some M,x5,x6,x7,y8,y9,y10,y11,y12,y13]
theorem A7B (hU:∀ (σ:Sto)(y:XC),Bz s!"plain" (mC 443 y mN) M σ = some y)(hpl:∀ σ,BP [M] σ = some (Pl,σ))
    (e9:∀ σ,tlP (tlR sc fi F O M x5 x6 x7 none none none none none none) σ = some (.d Td,σ ++ [.dead])) (e10:∀ σ,tlL (tlR sc fi F O M x5 x6 x7 (some Pl) (some (.d Td)) none none none none) σ = some (.loc σ.length,σ ++ [.list (cs.map .d)])) (hC:Cd=.lst cs)
    (e11:∀ σ,tlC (tlR sc fi F O M x5 x6 x7 (some Pl) (some (.d Td)) (some (.d Cd)) none none none) σ = some (.d Cd,σ ++ [.dead])) (n1:∀ σ,AF .NotEq (.d Cd) (.d Cd) σ = some (.d (.bool false),σ))
    (hpr:∀ σ,Dk [M] σ = some (T1,σ))(hbp:∀ σ,BZ [T1] σ = some (.d Td,σ)) (n2:∀ σ,AF .NotEq (.d Td) (.d Td) σ = some (.d (.bool false),σ))
    (hfo:∀ σ,Dx [M] σ = some (T2,σ))(hbf:∀ σ,BZ [T2] σ = some (.d Rd,σ))(hfd:∀ σ,Ef [.d Td,.d Cd] σ = some (.d Rd,σ)) (n3:∀ σ,AF .NotEq (.d Rd) (.d Rd) σ = some (.d (.bool false),σ))
    (lp:∀ σ:Sto,∃ x13,tlF (tlR sc fi F O M x5 x6 x7 (some Pl) (some (.d Td)) (some (.d Cd)) (some (.d Rd)) (some (.loc σ.length)) none) (σ ++ [SO.list []])=some (.next,tlR sc fi F O M x5 x6 x7 (some Pl) (some (.d Td)) (some (.d Cd)) (some (.d Rd)) (some (.loc σ.length)) x13,σ ++ [SO.list L]))
    (q1:∀ σ:Sto,AF .Eq (.loc σ.length) (.d Td) (σ ++ [SO.list L])=some (.d (.bool true),σ ++ [SO.list L])) (q2:∀ σ,AF .Eq Pl Pl σ = some (.d (.bool true),σ)) :
    ∃ ρ' σ',WA (tlR sc fi F O M x5 x6 x7 none none none none none none) σ = some (.ret (.d (.bool true)),ρ',σ'):=by
  obtain ⟨x13,lp⟩:=lp (((σ ++ [SO.dead])++[SO.dead])++[SO.dead]);have hz:=IP (σ:=σ ++ [SO.dead]) (ds:=cs);rw [← hC] at hz;refine ⟨tlR sc fi F O M x5 x6 x7 (some Pl) (some (.d Td)) (some (.d Cd)) (some (.d Rd)) (some (.loc (((σ ++ [SO.dead])++[SO.dead])++[SO.dead]).length)) x13,(((σ ++ [SO.dead])++[SO.dead])++[SO.dead])++[SO.list L],?_⟩;rw [A0r];erw [hU _ _,hpl _,hz,n1 _,n2 _,n3 _,hpr _,hbp _,hfo _,hbf _,hfd _,q1 _,q2 _,@e_FzV,@A3O,← e9 _,← e10 _,← e11 _,← lp,← ⟨(by decide:(2:Nat)≤sizeLine),rfl⟩,← (by decide:(0:Nat)≤sizeLine)]
end
section
variable {sc fi F O M Pl T C Rv:AV} {x5 x6 x7:Option AV}
theorem A4r {acc:List AV}{l:List D}{t:Str}{σ:Sto}(hq:∀ σ,E9 [.d (.str t)] σ = some (.d (.lst l),σ))(hz:acc.length+(l.map AV.d).length≤sizeLine) :
    tlB (tlR sc fi F O M x5 x6 x7 (some Pl) (some T) (some C) (some Rv) (some (.loc σ.length)) (some (.d (.str t)))) (σ ++ [SO.list acc])=some (.next,tlR sc fi F O M x5 x6 x7 (some Pl) (some T) (some C) (some Rv) (some (.loc σ.length)) (some (.d (.str t))),σ ++ [SO.list (acc++l.map .d)]):=by
  have e:=Sx (v:=.d (.lst l)) (Dp (σ:=σ) (o:=SO.list acc)) rfl hz rfl;rw [show (σ ++ [SO.list acc]).set σ.length (SO.list (acc++l.map .d))=σ ++ [SO.list (acc++l.map .d)] by simp] at e
  unfold tlB;erw [hq _,e,Dp]
theorem A4s {rs:List Str}{ls:List (List Str)}(H:B1 Jk rs ls):∀ {acc:List Str} {x13:Option AV} (σ:Sto),(∀ t∈rs,t.length≤2000)→acc.length+ls.flatten.length≤100000 →
    ∃ x13',Kr (BN 13) tlB ((rs.map sD).map .d) (tlR sc fi F O M x5 x6 x7 (some Pl) (some T) (some C) (some Rv) (some (.loc σ.length)) x13) (σ ++ [SO.list ((acc.map sD).map .d)])=some (.next,tlR sc fi F O M x5 x6 x7 (some Pl) (some T) (some C) (some Rv) (some (.loc σ.length)) x13',σ ++ [SO.list (((acc++ls.flatten).map sD).map .d)]):=by
  induction H with
  | nil=>exact fun {acc x13} σ ξ ξ=>⟨x13,by rw [List.flatten_nil,List.append_nil];rfl⟩
  | @cons t l rs ls hx hr ih =>
    intro acc x13 σ hs hz;rw [List.flatten_cons,List.length_append] at hz;obtain ⟨x13',e⟩:=@ih (acc++l) (some (.d (.str t))) σ (fun t ht=>hs t (.tail _ ht)) (by rw [List.length_append];omega);rw [List.append_assoc,← List.flatten_cons] at e;refine ⟨x13',YI (A4r (hx.flat (hs t (.head _))) (by rw [sizeLine_eq];simp only [List.length_map];omega)) ?_⟩;rw [← List.map_append,← List.map_append];exact e
end
theorem A4q {a b:Int}{ops:List D}{tcs:List TC}(H:Ops a b ops ops tcs)(hl:ops.length≤16)(ha:a=0∨a=1∨a=2∨a=3)(hb:b=0∨b=1∨b=2∨b=3)(sc fi:AV) (x5 x6 x7:Option AV)(σ:Sto) :
    ∃ ρ' σ',WA [some sc,some fi,some (.d (G4 a b)),some (.d (.lst ops)),some (.d (Ce a b ops)),x5,x6,x7,none,none,none,none,none,none] σ = some (.ret (.d (.bool true)),ρ',σ'):=by
  have htl:tcs.length=ops.length:=H.length.symm;obtain ⟨hg,hof⟩:=A2n H;have hU:∀ (σ:Sto) (y:XC),Bz s!"plain" (mC 443 y mN) (.d (Ce a b ops)) σ = some y:=fun σ y=>by kernel_rfl
  have hpl:∀ σ,BP [.d (Ce a b ops)] σ = some (.d (Uu a b ops),σ):=A2u a b ops (by omega);have hop:=A0e (a:=a) (b:=b) hof;have eT:tcs.map (fun p=>sD p.1)=(tcs.map (·.1)).map sD:=by rw [List.map_map];rfl
  have okT:okD 8 (.lst ((tcs.map (·.1)).map sD))=true:=SM fun t ht=>by
    obtain ⟨p,hp,rfl⟩:=List.mem_map.mp ht;exact U3 (hg p hp)
  have okC:okD 8 (.lst (tcs.map fun p=>cnD p.2))=true:=by
    show (tcs.map fun p=>cnD p.2).all (okD 7)=true;rw [List.all_map,List.all_eq_true];intro p _;exact A7q 6 p.2
  obtain ⟨ls,hls,hfl,hrz,hrn⟩:=A1x hg (by omega);have hpr:=A2v H (by omega) ha hb (tcs.map (·.1)) (fun t ht=>by
    obtain ⟨p,hp,rfl⟩:=List.mem_map.mp ht;exact Nat.le_trans (Hd (hg p hp)) (by decide)) (by rw [List.length_map];omega) rfl
  have hfo:=A1C H (by omega) ha hb _ (fun t ht=>Nat.le_trans (hrz t ht) (by decide)) hrn rfl;have hbp:=PB a b (tcs.map (·.1)) (fun t ht=>by
    obtain ⟨p,hp,rfl⟩:=List.mem_map.mp ht;obtain ⟨c,r,e,_,h2⟩:=U4 (hg p hp);exact ⟨U5 (hg p hp),c,r,e,h2⟩) (fun t ht=>by
    obtain ⟨p,hp,rfl⟩:=List.mem_map.mp ht;exact Nat.le_trans (Hd (hg p hp)) (by decide)) (by rw [List.length_map];omega)
  have hrw:∀ t∈(tcs.foldl AZ ([],[])).1++(tcs.foldl AZ ([],[])).2,Rw t:=by
    have key:∀ {l:List Str} {ls:List (List Str)},B1 Jk l ls→∀ t∈l,Rw t:=by
      intro l ls h
      induction h with
      | nil=>intro t ht;cases ht
      | cons x r ih =>
        intro t ht;rcases List.mem_cons.mp ht with rfl | ht
        · exact x.rw
        · exact ih t ht
    exact key hls
  have hrc:∀ t∈(tcs.foldl AZ ([],[])).1++(tcs.foldl AZ ([],[])).2,t.cps.all (· < 0x110000)=true:=by
    have key:∀ {l:List Str} {ls:List (List Str)},B1 Jk l ls→∀ t∈l,t.cps.all (· < 0x110000)=true:=by
      intro l ls h
      induction h with
      | nil=>intro t ht;cases ht
      | cons x r ih =>
        intro t ht;rcases List.mem_cons.mp ht with rfl | ht
        · exact x.cp
        · exact ih t ht
    exact key hls
  have hbf:=PB a b ((tcs.foldl AZ ([],[])).1++(tcs.foldl AZ ([],[])).2) hrw (fun t ht=>Nat.le_trans (hrz t ht) (by decide)) hrn;have hfd:=ZK (tcs:=tcs) (by omega) (fun p hp=>Hd (hg p hp));generalize hR:(tcs.foldl AZ ([],[])).1++(tcs.foldl AZ ([],[])).2=R at hls hrz hrn hrc hfo hbf hfd;generalize E0 a b (tcs.map (·.1))=T1 at hpr hbp;generalize E0 a b R=T2 at hfo hbf;rw [eT] at hfd;have okR:okD 8 (.lst (R.map sD))=true:=SM hrc;refine A7B hU hpl (fun σ=>?_) (fun σ=>A4M (fun p=>cnD p.2) (xi:=xIt (Aa 3)) (fr:=[2]) (xe:=(Av (A8 (Aa 0) (A8 (Aa 1) Af)) CV)) H (by omega) rfl (fun op p ho=>Vp (rfl:Aa 0 [some (.d op),some (.d (G4 a b))] σ = some (.d op,σ)) (rfl:Aa 1 _ _=some (.d (G4 a b),σ)) (ho.lc σ))) rfl
    (fun σ=>VO (fun p=>cnD p.2) (xi:=xIt (Aa 3)) (fr:=[4]) (xe:=(Av (A8 (Aa 1) (A8 (Aa 0) Af)) C9)) H (by omega) rfl (fun op p ho=>Vp (rfl:Aa 1 [some (.d op),some (.d (Ce a b ops))] σ = some (.d (Ce a b ops),σ)) (rfl:Aa 0 _ _=some (.d op,σ)) (ho.co σ)))
    (Ui okC) hpr hbp (Ui okT) hfo hbf hfd (Ui okR) (fun σ=>?_) (fun σ=>A6m Dp okT) (A6n hop)
  · have e9:=VO (fun p=>sD p.1) (xi:=xIt (Aa 3)) (fr:=[4]) (xe:=(Av (A8 (Aa 1) (A8 (Aa 0) Af)) BB)) (ρ:=tlR sc fi (.d (G4 a b)) (.d (.lst ops)) (.d (Ce a b ops)) x5 x6 x7 none none none none none none) (σ:=σ) H (by omega) rfl (fun op p ho=>Vp (rfl:Aa 1 [some (.d op),some (.d (Ce a b ops))] σ = some (.d (Ce a b ops),σ)) (rfl:Aa 0 _ _=some (.d op,σ)) (ho.pr σ))
    rw [eT] at e9;exact e9
  · obtain ⟨x13',e⟩:=A4s (sc:=sc) (fi:=fi) (F:=.d (G4 a b)) (O:=.d (.lst ops)) (M:=.d (Ce a b ops)) (Pl:=.d (Uu a b ops)) (T:=.d (.lst ((tcs.map (·.1)).map sD))) (C:=.d (.lst (tcs.map fun p=>cnD p.2))) (Rv:=.d (.lst (R.map sD))) (x5:=x5) (x6:=x6) (x7:=x7) hls (acc:=[]) (x13:=none) σ hrz (by rw [hfl,List.length_map];show 0 + _≤_;omega)
    rw [List.nil_append,hfl] at e;exact ⟨x13',(MG (rfl:xIt (Aa 11) _ _=some (GF (.d (.lst (R.map sD))),_)) (Md _) (by rw [List.length_map,List.length_map];exact Nat.le_trans hrn (by decide))).trans e⟩
set_option tactic.hygienic true in
theorem A7e (s:List Int)(hs:s.length≤63):∃ σ',A47 [.d (Co s)] []=some (.d (.bool true),σ'):=by
  have s0:Bm 0 (xSl true (Aa 0) (xD .none) (xD (.int 63))) [some (.d (Co s)),none,none,none,none,none,none,none,none,none,none,none,none,none] []=some (.next,[some (.d (Co s)),none,none,none,none,none,none,none,none,none,none,none,none,none],[]):=by
    have:=A4k (l:=s.map D.int) (by rw [List.length_map];exact hs) [];exact M6 (i:=0) this
  obtain ⟨F,s1⟩:=A1v s hs [none,none,none,none,none,none,none,none,none,none,none,none] [];have s2:=A2M (.d (Co s)) F;obtain ⟨ops,x5,x6,x7,ho,hl,s3⟩:=A36 s hs F;obtain ⟨tcs,H⟩:=PI (a:=aF F) (b:=bF F) (OPS:=ops) (l:=ops) fun op h=>ho op h ops;have hf:frz (.loc 0) [.list (ops.map .d),.inst 443 m0]=some (.lst ops,[.dead,.inst 443 m0]):=by
    have e:Ez (ops.map AV.d)=some ops:=C0 ops;show (Option.map _ (Ez (ops.map AV.d)))=_;rw [e];rfl
  have s4:=ZU (.d (Co s)) (.d (.int F)) (aF F) (bF F) ops [x5,x6,x7,none,none,none,none,none,none];have s5:=VT (.d (Co s)) (.d (.int F)) (aF F) (bF F) ops [x5,x6,x7,none,none,none,none,none,none];have s6:=ZP (.d (Co s)) (.d (.int F)) (aF F) (bF F) ops [x5,x6,x7,none,none,none,none,none,none] (by omega);obtain ⟨ρ',σ',e⟩:=A4q H hl (A4S F) (A4S (F.fdiv 4)) (.d (Co s)) (.d (.int F)) x5 x6 x7 [.dead,.dead,.dead,.dead,.dead,.dead,.dead,.dead];have hx:T5 [some (.d (Co s)),none,none,none,none,none,none,none,none,none,none,none,none,none] []=some (.ret (.d (.bool true)),ρ',σ'):=by
    show Al _ (Al _ (Al _ (Al (DL _ _ OY) (Mi 3 (Al _ (Al _ (Al _ (Mi 4 WA)))))))) _ _=_;rw [C3 s0,C3 s1,C3 s2,C3 s3,A1I (i:=3) rfl hf];show Al _ (Al _ (Al _ (Mi 4 WA))) [some (.d (Co s)),some (.d (.int F)),some (.d (G4 (aF F) (bF F))),some (.d (.lst ops)),some (.loc 1),x5,x6,x7,none,none,none,none,none,none] [.dead,.inst 443 m0]=_;rw [C3 s4,C3 s5,C3 s6,A1I (i:=4) rfl (A4b (aF F) (bF F) ops)];exact e
  refine ⟨σ',?_⟩;show By 1 13 T5 [.d (Co s)] []=_;unfold By;rw [if_pos (show [AV.d (Co s)].length=1 from rfl)];show (T5 [some (.d (Co s)),none,none,none,none,none,none,none,none,none,none,none,none,none] []).bind Ye=_;rw [hx];rfl
theorem law_t (s:List Int)(hs:s.length≤63)(Q:AV→Sto→Prop)(h:∀ σ',Q (.d (.bool true)) σ'):A4L [.d (Co s)] [] Q:=by
  obtain ⟨σ',e⟩:=A7e s hs;exact b_law _ _ _ _ e Q (h σ')
noncomputable def nSt:Expr→Bool
  | .Starred _ _=>false
  | _=>true
noncomputable def nAt:Expr→Bool
  | .Attribute _ _ _=>false
  | _=>true
noncomputable def nSu:Expr→Bool
  | .Call (.Name _ _) [] [] _=>false
  | _=>true
theorem QI {e:Expr}{es:List Expr}{env:Env}(h:nSt e=true):starEach (e::es) env=(false,eval e env)::starEach es env:=by
  cases e <;> first | rfl | cases h
theorem QH:∀ {es:List Expr}{env:Env},es.all nSt=true→starEach es env=es.map fun e=>(false,eval e env)
  | [],_,_=>rfl
  | e::es,env,h=>by
    rw [List.all_cons,Bool.and_eq_true] at h;rw [QI h.1,QH h.2];rfl
theorem Pq {es:List Expr}{env:Env}{pos:Pos}(h:es.all nSt=true):(backTo pos (starEach es env)).any (·.1)=false:=by
  rw [QH h];unfold backTo;rw [List.map_map,List.any_map];rw [List.any_eq_false];intro e _;exact Bool.false_ne_true
theorem A6t {es:List Expr}{env:Env}{pos:Pos}(h:es.all nSt=true)(hl:Nat.ble es.length 20=true):methodCallForm (es.length+0) (backTo pos (starEach es env)) (backToKw pos (keywordEach [] env))=true:=by
  have hl:=Nat.le_of_ble_eq_true hl;unfold methodCallForm;rw [QH h];unfold backTo;rw [List.map_map,List.all_map];have e1:(es.all ((fun x=>!x.1) ∘ (fun x=>match x with | (star,t)=>(star,if star=true then do let v ← t;standAt pos;pure v else t)) ∘ fun e=>(false,eval e env)))=true:=by
    rw [List.all_eq_true];intro e _;rfl
  rw [e1];have e2:decide (es.length+0+(if (backToKw pos (keywordEach [] env)).isEmpty=true then 0 else 1) < 30)=true:=by
    rw [show (backToKw pos (keywordEach [] env)).isEmpty=true from rfl,if_pos rfl];exact decide_eq_true (by omega)
  rw [e2];rfl
theorem TG {func:Expr}{args:List Expr}{pos:Pos}{env:Env}(h:nAt func=true):eval (.Call func args [] pos) env=(do callWith pos (← eval func env) [] (backTo pos (starEach args env)) (backToKw pos (keywordEach [] env))):=by
  cases func <;> first | rfl | cases h
theorem A07 {o:Expr}{name:Str}{env:Env}{t:Sem Value}(h:nSu o=true):attributeBase o name env t=t:=by
  unfold attributeBase;split
  · cases h
  · rfl
theorem A6B (o:Expr)(apos pos:Pos)(name:Str)(args:List Expr)(env:Env):eval (.Call (.Attribute o name apos) args [] pos) env=(do
      let ov ← attributeBase o name env (eval o env)
      standAt apos.atName
      methodCall o name apos pos env ov (args.length+0) (backTo pos (starEach args env)) (backToKw pos (keywordEach [] env))):=by kernel_rfl
theorem Uf {o:Expr}{apos pos:Pos}{name:Str}{args:List Expr}{env:Env}(ho:nSu o=true)(ha:args.all nSt=true)(hl:Nat.ble args.length 20=true)(hp:(apos.endLine == pos.line)=true) :
    eval (.Call (.Attribute o name apos) args [] pos) env=(do
      let ov ← eval o env
      standAt apos.atName
      let (f,first) ← holding [ov] (getMethod ov name (plOf o env))
      callWith pos f first (backTo pos (starEach args env)) (backToKw pos (keywordEach [] env))):=by
  rw [A6B,A07 ho];unfold methodCall methodCallPos calleeOf;rw [A6t ha hl,hp];rfl
theorem A01 (o:Expr)(name:Str)(pos:Pos)(env:Env):eval (.Attribute o name pos) env=(do
      let ov ← attributeBase o name env (eval o env)
      standAt pos.atName
      let r ← holding [ov] (getAttr ov name true)
      letTemporaryGo o ov r
      pure r):=by kernel_rfl
theorem A5T {o:Expr}{name:Str}{pos:Pos}{env:Env}(ho:nSu o=true):eval (.Attribute o name pos) env=(do
      let ov ← eval o env
      standAt pos.atName
      let r ← holding [ov] (getAttr ov name true)
      letTemporaryGo o ov r
      pure r):=by rw [A01,A07 ho]
section
variable {G:Gl}{lv:Nat}{env:Env}{vars:List Str}
theorem A3l {e:Expr}{es:List Expr}{ta:TE}{ts:TEs}(ha:Au G lv env vars e ta)(hs:Bw G lv env vars es ts)(h:nSt e=true):Bw G lv env vars (e::es) (Ac ta ts):=WV ha hs (QI h)
theorem A3b {e:Expr}{es:List Expr}{ta:TE}{ts:TEs}(ha:RE G lv env vars e ta)(hs:REs G lv env vars es ts)(h:nSt e=true):REs G lv env vars (e::es) (Ac ta ts):=A5p ha hs (QI h)
theorem A3e {func:Expr}{f:Value}{t:CS}{args:List Expr}{pos:Pos}{ts:TEs}(hf:Au G lv env vars func (tD (.val f)))(hv:Ao G lv f t)(hk:keeps G.K f=true)(hs:Bw G lv env vars args ts)
    (h:nAt func=true)(ha:args.all nSt=true):Au G lv env vars (.Call func args [] pos) (AB ts t):=A5t hf hv hk hs (TG h) (Pq ha)
theorem A27 {func:Expr}{f:Value}{t:CS}{args:List Expr}{pos:Pos}{ts:TEs}(hf:Au G lv env vars func (tD (.val f)))(hv:RV G lv f t)(hk:keeps G.K f=true)(hs:REs G lv env vars args ts)
    (h:nAt func=true)(ha:args.all nSt=true):RE G lv env vars (.Call func args [] pos) (AB ts t):=A5m hf hv hk hs (TG h) (Pq ha)
theorem S_MtN {o:Expr}{name:Str}{apos pos:Pos}{args:List Expr}{mt:MT}{to:TE}{ts:TEs}(ho:Au G lv env vars o to)(hs:Bw G lv env vars args ts)(hm:Ng G lv name mt)
    (h:nSu o=true)(ha:args.all nSt=true)(hl:Nat.ble args.length 20=true)(hp:(apos.endLine == pos.line)=true) :
    Au G lv env vars (.Call (.Attribute o name apos) args [] pos) (tMt mt to ts):=S_Mt ho hs hm (Uf h ha hl hp) (Pq ha)
theorem R_MtN {o:Expr}{name:Str}{apos pos:Pos}{args:List Expr}{mt:MT}{to:TE}{ts:TEs}(ho:RE G lv env vars o to)(hs:REs G lv env vars args ts)(hm:Sk G lv name mt)
    (h:nSu o=true)(ha:args.all nSt=true)(hl:Nat.ble args.length 20=true)(hp:(apos.endLine == pos.line)=true) :
    RE G lv env vars (.Call (.Attribute o name apos) args [] pos) (tMt mt to ts):=R_Mt ho hs hm (Uf h ha hl hp) (Pq ha)
theorem A3c {T:List Addr}{value:Expr}{name:Str}{pos:Pos}{to:TE}(ho:Au G lv env vars value to)(hT:T.all (fun C=>Ve G.K C name)=true)(h:nSu value=true) :
    Au G lv env vars (.Attribute value name pos) (AM T name to):=A5s ho hT (A5T h)
theorem A5v {o:Expr}{name:Str}{apos pos:Pos}{args:List Expr}{mt:MT}{to:TE}{ts:TEs}(ho:Ei G lv env vars (eval o env) AV Rc to)(hs:Bw G lv env vars args ts)(hm:Ng G lv name mt)
    (h:nSu o=true)(ha:args.all nSt=true)(hl:Nat.ble args.length 20=true)(hp:(apos.endLine == pos.line)=true) :
    Ei G lv env vars (eval (.Call (.Attribute o name apos) args [] pos) env) AV Rc (tMt mt to ts):=S_Mt1 ho hs hm (Uf h ha hl hp) (Pq ha)
theorem A0R {o:Expr}{y z:Str} {apos pos p1 p2:Pos} {k1 k2:Nat}{to:TE}(ho:Ei G lv env vars (eval o env) AV Rc to)(hyz:(y == z)=false)(h:nSu o=true)(hp:(apos.endLine == pos.line)=true) :
    Ei G lv env vars (eval (.Call (.Attribute o "replace" apos) [.Constant (.str y) k1 p1,.Constant (.str z) k2 p2] [] pos) env) AV Rc (SZ y z to):=A3p ho hyz (Uf h rfl rfl hp) rfl
theorem A0K {func e:Expr}{te:TE}{pos:Pos}(hf:Au G lv env vars func (tD (.val (.type "range"))))(he:Au G lv env vars e te)(h:nAt func=true)(ha:nSt e=true) :
    DO G lv env vars (fun ξ=>True) (.Call func [e] [] pos) (Mh te):=A23 hf he (TG h) (Pq (by rw [List.all_cons,ha];rfl)) (QI ha)
theorem A22 {func e:Expr}{te:TE}{pos:Pos}(hf:Au G lv env vars func (tD (.val (.type "enumerate"))))(he:Au G lv env vars e te)(h:nAt func=true)(ha:nSt e=true) :
    DO G lv env vars U7 (.Call func [e] [] pos) (Wz te):=A5d hf he (TG h) (Pq (by rw [List.all_cons,ha];rfl)) (QI ha)
end
structure Hid (p:Prop):Prop where
  out:p
section
variable {G:Gl}{lv:Nat}{env:Env}{vars:List Str}
theorem A9 {i:Nat}{x:Str}{pos:Pos}(he:BJ env)(hx:vars[i]? = some x)(hd:(x == ("__debug__" : Str))=false:=by decide +kernel)(hn:(x == ("__classdict__" : Str))=false:=by decide +kernel):Hid (Au G lv env vars (.Name x pos) (Ag i)):=⟨S_var (he:=he) (hx:=hx) (hd:=hd) (hn:=hn)⟩
theorem A7 {e:Expr}{es:List Expr}{ta:TE}{ts:TEs}(ha:Hid (Au G lv env vars e ta))(hs:Hid (Bw G lv env vars es ts))(h:nSt e=true:=by rfl):Hid (Bw G lv env vars (e::es) (Ac ta ts)):=⟨A3l (ha:=ha.out) (hs:=hs.out) (h:=h)⟩
theorem Ae  : Hid (Bw G lv env vars [] Ap):=⟨Yu ⟩
theorem Ab {st:Stmt}{b:List Stmt}{x y:TS}(h:Hid (Ca G lv env vars st x))(k:Hid (BE G lv env vars b y)):Hid (BE G lv env vars (st::b) (As x y)):=⟨A3i (h:=h.out) (k:=k.out)⟩
theorem Aj {i:Int}{k:Nat}{pos:Pos}:Hid (Au G lv env vars (.Constant (.int i) k pos) (tD (.int i))):=⟨S_int ⟩
theorem Ah  : Hid (BE G lv env vars [] At):=⟨A5z ⟩
theorem Ak {l r:Expr}{op:Operator}{pos:Pos}{ta tb:TE}{f:F2}(hl:Hid (Au G lv env vars l ta))(hr:Hid (Au G lv env vars r tb))(ho:Op2 G lv (binaryOp op) f):Hid (Au G lv env vars (.BinOp l op r pos) (Aq f ta tb)):=⟨A3d (hl:=hl.out) (hr:=hr.out) (ho:=ho)⟩
theorem Ax {x:Str}{v:Value}{d:D}{pos:Pos}(he:BJ env)(e:nsIn G.K mainGlobals x=some (some v))(h:Dn (Pm G.hT []) v d)(hx:env.kindOf x=some .globalImplicit)(hd:(x == ("__debug__" : Str))=false:=by decide +kernel):Hid (Au G lv env vars (.Name x pos) (tD d)):=⟨A5G (he:=he) (e:=e) (h:=h) (hx:=hx) (hd:=hd)⟩
theorem Ar {func:Expr}{f:Value}{t:CS}{args:List Expr}{pos:Pos}{ts:TEs}(hf:Hid (Au G lv env vars func (tD (.val f))))(hv:Ao G lv f t)(hk:keeps G.K f=true)(hs:Hid (Bw G lv env vars args ts))(h:nAt func=true:=by rfl)(ha:args.all nSt=true:=by rfl):Hid (Au G lv env vars (.Call func args [] pos) (AB ts t)):=⟨A3e (hf:=hf.out) (hv:=hv) (hk:=hk) (hs:=hs.out) (h:=h) (ha:=ha)⟩
theorem Aw {T:List Addr}{value:Expr}{name:Str}{pos:Pos}{to:TE}(ho:Hid (Au G lv env vars value to))(hT:T.all (fun C=>Ve G.K C name)=true)(h:nSu value=true:=by rfl):Hid (Au G lv env vars (.Attribute value name pos) (AM T name to)):=⟨A3c (ho:=ho.out) (hT:=hT) (h:=h)⟩
theorem AC {value slice:Expr}{pos:Pos}{ta tb:TE}(ha:Hid (Au G lv env vars value ta))(hb:Hid (Au G lv env vars slice tb))(hs:∀ o i,subscripted slice false o i=operate [o,i] (getItem o i):=by intro _ _;rfl):Hid (Au G lv env vars (.Subscript value slice pos) (Aq Bf ta tb)):=⟨S_Sub (ha:=ha.out) (hb:=hb.out) (hs:=hs)⟩
theorem AG {x:Str}{k:Nat}{pos:Pos}:Hid (Au G lv env vars (.Constant (.str x) k pos) (tD (.str x))):=⟨S_str ⟩
theorem AI {es:List Expr}{k:Nat}{pos:Pos}{ts:TEs}(hs:Hid (Bw G lv env vars es ts)):Hid (Au G lv env vars (.Tuple es k pos) (Bp ts)):=⟨S_Tup (hs:=hs.out)⟩
theorem AK {e:Expr}{pos:Pos}{t:TE}(h:Hid (Au G lv env vars e t)):Hid (Ca G lv env vars (.Return (some e) pos) (Bi t)):=⟨S_ret (h:=h.out)⟩
theorem AD {l r:Expr}{op:CmpOp}{pos:Pos}{ta tb:TE}(hl:Hid (Au G lv env vars l ta))(hr:Hid (Au G lv env vars r tb))(hm:behindInMarks op r=false:=by with_unfolding_all rfl):Hid (Dg G lv env vars (.Compare l [op] [r] pos) (tTr (Aq (B7 op) ta tb))):=⟨A5C (hl:=hl.out) (hr:=hr.out) (hm:=hm)⟩
theorem AQ {x:Str}{v:Value}{pos:Pos}(he:BJ env)(e:nsIn G.K mainGlobals x=some none)(h:bootBuiltins x=some v)(hx:env.kindOf x=some .globalImplicit)(hn:x ≠ "__name__" := by decide +kernel)(hd:(x == ("__debug__" : Str))=false:=by decide +kernel):Hid (Au G lv env vars (.Name x pos) (tD (.val v))):=⟨S_blt (he:=he) (e:=e) (h:=h) (hx:=hx) (hn:=hn) (hd:=hd)⟩
theorem AP {o:Expr}{name:Str}{apos pos:Pos}{args:List Expr}{mt:MT}{to:TE}{ts:TEs}(ho:Hid (Au G lv env vars o to))(hs:Hid (Bw G lv env vars args ts))(hm:Ng G lv name mt)(h:nSu o=true:=by rfl)(ha:args.all nSt=true:=by rfl)(hl:Nat.ble args.length 20=true:=by rfl)(hp:(apos.endLine == pos.line)=true:=by rfl):Hid (Au G lv env vars (.Call (.Attribute o name apos) args [] pos) (tMt mt to ts)):=⟨S_MtN (ho:=ho.out) (hs:=hs.out) (hm:=hm) (h:=h) (ha:=ha) (hl:=hl) (hp:=hp)⟩
theorem Bn {test:Expr}{body orelse:List Stmt}{pos:Pos}{b:TT}{x y:TS}(hb:Hid (Dg G lv env vars test b))(hx:Hid (BE G lv env vars body x))(hy:Hid (BE G lv env vars orelse y)):Hid (Ca G lv env vars (.If test body orelse pos) (Bb b x y)):=⟨S_if (hb:=hb.out) (hx:=hx.out) (hy:=hy.out)⟩
theorem B9 {i:Nat}{x:Str}{value:Expr}{p pos:Pos}{t:TE}(he:BJ env)(hx:vars[i]? = some x)(hnd:vars.Nodup)(hk:env.kindOf x=some .local)(h:Hid (Au G lv env vars value t))(hs:swapsWith value (some (.Name x p)) pos.line env=pure false:=by rfl):Hid (Ca G lv env vars (.Assign [.Name x p] value pos) (BY i t)):=⟨S_let (he:=he) (hx:=hx) (hnd:=hnd) (hk:=hk) (h:=h.out) (hs:=hs)⟩
theorem BH {e:Expr}{t:TE}(h:Hid (Au G lv env vars e t)):Hid (Au G lv env vars e (tFz t)):=⟨S_Fz (h:=h.out)⟩
theorem AX {es:List Expr}{pos:Pos}{ts:TEs}(hs:Hid (Bw G lv env vars es ts)):Hid (Au G lv env vars (.List es pos) (Bk ts)):=⟨A3g (hs:=hs.out)⟩
theorem Bg {T:List Addr}{o value:Expr}{name:Str}{p pos:Pos}{tv to:TE}(hv:Hid (Au G lv env vars value tv))(ho:Hid (Au G lv env vars o to))(hT:T.all (fun C=>Ww G.K C name)=true)(hs:swapsWith value (some (.Attribute o name p)) pos.line env=pure false:=by rfl):Hid (Ca G lv env vars (.Assign [.Attribute o name p] value pos) (C1 T name tv to)):=⟨A5J (hv:=hv.out) (ho:=ho.out) (hT:=hT) (hs:=hs)⟩
theorem CJ {e:Expr}{te:TE}(he:Hid (Au G lv env vars e te)):Hid (DO G lv env vars (fun ξ=>True) e (tIt te)):=⟨I_it (he:=he.out)⟩
theorem BQ {e:Expr}{pos:Pos}{t:TE}(h:Hid (Au G lv env vars e t))(hi:interactive env=false:=by rfl)(hs:swapsWith e none pos.line env=pure false:=by rfl):Hid (Ca G lv env vars (.Expr e pos) (tSt t)):=⟨A5E (h:=h.out) (hi:=hi) (hs:=hs)⟩
theorem Bu {st:Stmt}{b:List Stmt}{x y:TS}(h:Hid (RS G lv env vars st x))(k:Hid (RBk G lv env vars b y)):Hid (RBk G lv env vars (st::b) (As x y)):=⟨A29 (h:=h.out) (k:=k.out)⟩
theorem Cw {st:Stmt}:Hid (Ca G lv env vars st Gb):=⟨S_noS ⟩
theorem Cb {es:List Expr}{pos:Pos}{ts:TEs}(hs:Hid (Bw G lv env vars es ts)):Hid (Au G lv env vars (.List es pos) (Dw ts)):=⟨A5u (hs:=hs.out)⟩
theorem CB {k:Nat}{pos:Pos}:Hid (Au G lv env vars (.Constant .none k pos) (tD .none)):=⟨A5H ⟩
theorem GD {e:Expr}{t:TE}(h:Hid (Au G lv env vars e t)):Hid (JG G lv env vars (some e) t):=⟨S_ps (h:=h.out)⟩
theorem EP  : Hid (FF G lv env vars [] Eh):=⟨S_if0 ⟩
theorem EO {target iter:Expr}{body:List Stmt}{pos:Pos}{ti:TI}{asg:TA}{tb:TS}{tg:Expr→Prop}(htg:tg target)(hi:Hid (DO G lv env vars tg iter ti))(hg:Hid (HY G lv env vars target asg))(hb:Hid (BE G lv env vars body tb))(hs:∀ x,foldedSetIterable iter env x=pure x:=by intro _;rfl):Hid (Ca G lv env vars (.For target iter body [] pos) (Gw ti asg tb)):=⟨S_for (htg:=htg) (hi:=hi.out) (hg:=hg.out) (hb:=hb.out) (hs:=hs)⟩
theorem Dl {elt iter:Expr}{x:Str}{px:Pos}{ifs:List Expr}{scope:Scope}{pos:Pos}{cl:List (Str×Addr)}{frn:List Str}{fr:List Nat}{ti:TI}{tt:TT}{te:TE}(he:BJ env)(hi:Hid (DO G lv env vars (fun ξ=>True) iter ti))(htt:∀ C,Hid (FF G lv (compEnvC scope cl C env) (x::frn) ifs tt))(hte:∀ C,Hid (Au G lv (compEnvC scope cl C env) (x::frn) elt te))(hf:IA env scope cl vars frn fr)(hclos:closureFor scope env=pure cl)(hcell:∀ y∈scope.names,y.2≠.cell)(hkind:scope.kind=.function)(hnames:∀ y∈scope.names,y.2=.local→scope.names.lookup y.1=some .local)(hx:scope.names.lookup x=some .local)(hs:∀ x,foldedSetIterable iter env x=pure x:=by intro _;rfl):Hid (Au G lv env vars (.ListComp elt [⟨.Name x px,iter,ifs,0⟩] scope pos) (Eg ti fr tt te)):=⟨A5D (he:=he) (hi:=hi.out) (htt:=(fun C=>(htt C).out)) (hte:=(fun C=>(hte C).out)) (hf:=hf) (hclos:=hclos) (hcell:=hcell) (hkind:=hkind) (hnames:=hnames) (hx:=hx) (hs:=hs)⟩
theorem EN  : Hid (REs G lv env vars [] Ap):=⟨R_nil ⟩
theorem Hy {value:Expr}{elo ehi:Option Expr}{p pos:Pos}{tv tl tu:TE}(frz:Bool)(hv:Hid (Au G lv env vars value tv))(hl:Hid (JG G lv env vars elo tl))(hu:Hid (JG G lv env vars ehi tu)):Hid (Au G lv env vars (.Subscript value (.Slice elo ehi none p) pos) (tSl frz tv tl tu)):=⟨S_Sl (frz:=frz) (hv:=hv.out) (hl:=hl.out) (hu:=hu.out)⟩
theorem De {t b o:Expr}{pos:Pos}{tt:TT}{ta tb:TE}(ht:Hid (Dg G lv env vars t tt))(ha:Hid (Au G lv env vars b ta))(hb:Hid (Au G lv env vars o tb)):Hid (Au G lv env vars (.IfExp t b o pos) (tIf tt ta tb)):=⟨A3f (ht:=ht.out) (ha:=ha.out) (hb:=hb.out)⟩
theorem J9  : Hid (JG G lv env vars none (tD .none)):=⟨S_pn ⟩
theorem CK {e:Expr}{es:List Expr}{ta tb:TT}(ha:Hid (Dg G lv env vars e ta))(hb:Hid (F5 G lv env vars .Or es tb)):Hid (F5 G lv env vars .Or (e::es) (IV ta tb)):=⟨A0Q (ha:=ha.out) (hb:=hb.out)⟩
theorem Gh {e:Expr}{pos:Pos}{t:TE}(h:Hid (Au G lv env vars e t)):Hid (Au G lv env vars (.UnaryOp .USub e pos) (Mg t)):=⟨S_neg (h:=h.out)⟩
theorem Ds {e:Expr}{es:List Expr}{ta:TE}{ts:TEs}(ha:Hid (RE G lv env vars e ta))(hs:Hid (REs G lv env vars es ts))(h:nSt e=true:=by rfl):Hid (REs G lv env vars (e::es) (Ac ta ts)):=⟨A3b (ha:=ha.out) (hs:=hs.out) (h:=h)⟩
theorem EH {i:Nat}{x:Str}{p:Pos}(he:BJ env)(hx:vars[i]? = some x)(hnd:vars.Nodup)(hk:env.kindOf x=some .local):Hid (HY G lv env vars (.Name x p) (Hc i)):=⟨A49 (he:=he) (hx:=hx) (hnd:=hnd) (hk:=hk)⟩
theorem LA {e:Expr}:Hid (Au G lv env vars e tNo):=⟨S_no ⟩
theorem F4 {func:Expr}{f:Value}{t:CS}{args:List Expr}{pos:Pos}{ts:TEs}(hf:Hid (Au G lv env vars func (tD (.val f))))(hv:RV G lv f t)(hk:keeps G.K f=true)(hs:Hid (REs G lv env vars args ts))(h:nAt func=true:=by rfl)(ha:args.all nSt=true:=by rfl):Hid (RE G lv env vars (.Call func args [] pos) (AB ts t)):=⟨A27 (hf:=hf.out) (hv:=hv) (hk:=hk) (hs:=hs.out) (h:=h) (ha:=ha)⟩
theorem FY {op:BoolOp}{es:List Expr}{pos:Pos}{t:TT}(h:Hid (F5 G lv env vars op es t)):Hid (Dg G lv env vars (.BoolOp op es pos) t):=⟨A3j (h:=h.out)⟩
theorem Hz {is:List Nat}{names:List Str}{elts es:List Expr}{k k₁:Nat}{tpos vpos pos:Pos}{ts:TEs}(he:BJ env)(hnd:vars.Nodup)(hn:Nf env vars is.reverse names.reverse)(hln:names.length=is.length)(hs:Hid (Bw G lv env vars es ts)) (h1:swapsWithSole [.Tuple elts k tpos] (.Tuple es k₁ vpos) pos.line env=pure false:=by rfl) (h2:swappedStores [.Tuple elts k tpos] (.Tuple es k₁ vpos) env=pure (some names):=by rfl):Hid (Ca G lv env vars (.Assign [.Tuple elts k tpos] (.Tuple es k₁ vpos) pos) (HM is ts)):=⟨A5x (he:=he) (hnd:=hnd) (hn:=hn) (hln:=hln) (hs:=hs.out) (h1:=h1) (h2:=h2)⟩
theorem H0  : Hid (F5 G lv env vars .Or [] Ia):=⟨A3o ⟩
theorem GZ {l r:Expr}{op:Operator}{pos:Pos}{ta tb:TE}{f:F2}(hl:Hid (RE G lv env vars l ta))(hr:Hid (RE G lv env vars r tb))(ho:Op2 G lv (binaryOp op) f):Hid (RE G lv env vars (.BinOp l op r pos) (Aq f ta tb)):=⟨A26 (hl:=hl.out) (hr:=hr.out) (ho:=ho)⟩
theorem KL {l r:Expr}{op:CmpOp}{pos:Pos}{ta tb:TE}(hl:Hid (Au G lv env vars l ta))(hr:Hid (Au G lv env vars r tb))(hm:behindInMarks op r=false:=by with_unfolding_all rfl):Hid (Au G lv env vars (.Compare l [op] [r] pos) (Aq (B7 op) ta tb)):=⟨A5B (hl:=hl.out) (hr:=hr.out) (hm:=hm)⟩
theorem Nc {is:List Nat}{es:List Expr}{k₁:Nat}{p:Pos}(he:BJ env)(hnd:vars.Nodup)(hn:Mn env vars is es):Hid (HY G lv env vars (.Tuple es k₁ p) (RM is)):=⟨G_tup (he:=he) (hnd:=hnd) (hn:=hn)⟩
theorem P8 {o:Expr}{name:Str}{apos pos:Pos}{args:List Expr}{mt:MT}{to:TE}{ts:TEs}(ho:Hid (RE G lv env vars o to))(hs:Hid (REs G lv env vars args ts))(hm:Sk G lv name mt)(h:nSu o=true:=by rfl)(ha:args.all nSt=true:=by rfl)(hl:Nat.ble args.length 20=true:=by rfl)(hp:(apos.endLine == pos.line)=true:=by rfl):Hid (RE G lv env vars (.Call (.Attribute o name apos) args [] pos) (tMt mt to ts)):=⟨R_MtN (ho:=ho.out) (hs:=hs.out) (hm:=hm) (h:=h) (ha:=ha) (hl:=hl) (hp:=hp)⟩
theorem Yr {e:Expr}{ta:TE}(ha:Hid (Au G lv env vars e ta))(he:isTrue e env (eval e env)=(do
    let v ← eval e env
    standAt e.pos
    holding [v] (truthy v)):=by rfl):Hid (Dg G lv env vars e (tTr ta)):=⟨S_tr (ha:=ha.out) (he:=he)⟩
theorem Ml {l r r':Expr}{op op':CmpOp}{pos:Pos}{ta tb tc:TE}(hl:Hid (Au G lv env vars l ta))(hr:Hid (Au G lv env vars r tb))(hr':Hid (Au G lv env vars r' tc))(hm:lastMarks [op,op'] [r,r']=false:=by with_unfolding_all rfl):Hid (Dg G lv env vars (.Compare l [op,op'] [r,r'] pos) (tTr (tCh (B7 op) (B7 op') ta tb tc))):=⟨A3k (hl:=hl.out) (hr:=hr.out) (hr':=hr'.out) (hm:=hm)⟩
theorem OP {b:Bool}{k:Nat}{pos:Pos}:Hid (Au G lv env vars (.Constant (.bool b) k pos) (tD (.bool b))):=⟨A5A ⟩
theorem IB {e:Expr}{es:List Expr}{ta tb:TT}(ha:Hid (Dg G lv env vars e ta))(hb:Hid (F5 G lv env vars .And es tb)):Hid (F5 G lv env vars .And (e::es) (QK ta tb)):=⟨Zf (ha:=ha.out) (hb:=hb.out)⟩
theorem JD {e e':Expr}{es:List Expr}{pos:Pos}{ta tb:TE}(ha:Hid (Au G lv env vars e ta))(hb:Hid (JF G lv env vars pos (e'::es) tb)):Hid (JF G lv env vars pos (e::e'::es) (SY ta tb)):=⟨WT (ha:=ha.out) (hb:=hb.out)⟩
theorem WO {e:Expr}{pos:Pos}{t:TE}(h:Hid (RE G lv env vars e t)):Hid (RS G lv env vars (.Return (some e) pos) (Bi t)):=⟨R_ret (h:=h.out)⟩
theorem WN {i:Nat}{b:List Stmt}{t:TS}(h:Hid (RBk G lv env vars b t)):Hid (RBk G lv env vars b (ON i t)):=⟨R_FzV (h:=h.out)⟩
theorem Nd {func e:Expr}{te:TE}{pos:Pos}(hf:Hid (Au G lv env vars func (tD (.val (.type "range")))))(he:Hid (Au G lv env vars e te))(h:nAt func=true:=by rfl)(ha:nSt e=true:=by rfl):Hid (DO G lv env vars (fun ξ=>True) (.Call func [e] [] pos) (Mh te)):=⟨A0K (hf:=hf.out) (he:=he.out) (h:=h) (ha:=ha)⟩
theorem Sf {o:Expr}{y z:Str} {apos pos p1 p2:Pos} {k1 k2:Nat}{to:TE}(ho:Hid (Ei G lv env vars (eval o env) AV Rc to))(hyz:(y == z)=false)(h:nSu o=true:=by rfl)(hp:(apos.endLine == pos.line)=true:=by rfl):Hid (Ei G lv env vars (eval (.Call (.Attribute o "replace" apos) [.Constant (.str y) k1 p1,.Constant (.str z) k2 p2] [] pos) env) AV Rc (SZ y z to)):=⟨A0R (ho:=ho.out) (hyz:=hyz) (h:=h) (hp:=hp)⟩
theorem P9 {i:Nat}{y:Str}{py spos:Pos}{elt iter:Expr}{x:Str}{px:Pos}{ifs:List Expr}{scope:Scope}{pos:Pos}{cl:List (Str×Addr)}{frn:List Str}{fr:List Nat}{ti:TI}{tt:TT}{te:TE}(he:BJ env)(hy:vars[i]? = some y)(hnd:vars.Nodup)(hky:env.kindOf y=some .local)(hsw:swapsWith (.ListComp elt [⟨.Name x px,iter,ifs,0⟩] scope pos) (some (.Name y py)) spos.line env=pure true)(hi:Hid (DO G lv env vars (fun ξ=>True) iter ti))(htt:∀ C,Hid (FF G lv (compEnvC scope cl C env) (x::frn) ifs tt))(hte:∀ C,Hid (Au G lv (compEnvC scope cl C env) (x::frn) elt te))(hf:IA env scope cl vars frn fr)(hclos:closureFor scope env=pure cl)(hcell:∀ y∈scope.names,y.2≠.cell)(hkind:scope.kind=.function)(hnames:∀ y∈scope.names,y.2=.local→scope.names.lookup y.1=some .local)(hx:scope.names.lookup x=some .local)(hs:∀ x,foldedSetIterable iter env x=pure x:=by intro _;rfl):Hid (Ca G lv env vars (.Assign [.Name y py] (.ListComp elt [⟨.Name x px,iter,ifs,0⟩] scope pos) spos) (BY i (Eg ti fr tt te))):=⟨Zi (he:=he) (hy:=hy) (hnd:=hnd) (hky:=hky) (hsw:=hsw) (hi:=hi.out) (htt:=(fun C=>(htt C).out)) (hte:=(fun C=>(hte C).out)) (hf:=hf) (hclos:=hclos) (hcell:=hcell) (hkind:=hkind) (hnames:=hnames) (hx:=hx) (hs:=hs)⟩
theorem A0I {e:Expr}{t:TT}(h:Hid (Dg G lv env vars e t)):Hid (FF G lv env vars [e] t):=⟨S_if1 (h:=h.out)⟩
theorem UX {pos:Pos}:Hid (Au G lv env vars (.Dict [] [] pos) QL):=⟨A3m ⟩
theorem O2 {e:Expr}{pos:Pos}{t:TE}(h:Hid (Au G lv env vars e t)):Hid (JF G lv env vars pos [e] t):=⟨WU (h:=h.out)⟩
theorem UW {es:List Expr}{pos:Pos}{t:TE}(h:Hid (JF G lv env vars pos es t)):Hid (Au G lv env vars (.BoolOp .And es pos) t):=⟨A3h (h:=h.out)⟩
theorem Yq {is:List Nat}{elts:List Expr}{value:Expr}{k:Nat}{tpos pos:Pos}{te:TE}(he:BJ env)(hnd:vars.Nodup)(hn:LR env vars is elts)(hs:Hid (Au G lv env vars value te)) (h1:swapsWithSole [.Tuple elts k tpos] value pos.line env=pure false:=by rfl) (h2:swappedStores [.Tuple elts k tpos] value env=pure none:=by rfl):Hid (Ca G lv env vars (.Assign [.Tuple elts k tpos] value pos) (Wy is te)):=⟨A5w (he:=he) (hnd:=hnd) (hn:=hn) (hs:=hs.out) (h1:=h1) (h2:=h2)⟩
theorem Se  : Hid (F5 G lv env vars .And [] Eh):=⟨A0O ⟩
theorem Sd {e:Expr}{es:List Expr}{ta tb:TT}(ha:Hid (RT G lv env vars e ta))(hb:Hid (RA G lv env vars .Or es tb)):Hid (RA G lv env vars .Or (e::es) (IV ta tb)):=⟨A0N (ha:=ha.out) (hb:=hb.out)⟩
theorem A0H {i:Nat}{x:Str}{value:Expr}{p pos:Pos}{t:TE}(he:BJ env)(hx:vars[i]? = some x)(hnd:vars.Nodup)(hk:env.kindOf x=some .local)(h:Hid (RE G lv env vars value t))(hs:swapsWith value (some (.Name x p)) pos.line env=pure false:=by rfl):Hid (RS G lv env vars (.Assign [.Name x p] value pos) (BY i t)):=⟨R_let (he:=he) (hx:=hx) (hnd:=hnd) (hk:=hk) (h:=h.out) (hs:=hs)⟩
theorem A4C {test:Expr}{body orelse:List Stmt}{pos:Pos}{b:TT}{x y:TS}(hb:Hid (RT G lv env vars test b))(hx:Hid (RBk G lv env vars body x))(hy:Hid (RBk G lv env vars orelse y)):Hid (RS G lv env vars (.If test body orelse pos) (Bb b x y)):=⟨R_if (hb:=hb.out) (hx:=hx.out) (hy:=hy.out)⟩
theorem A0G {target iter:Expr}{body:List Stmt}{pos:Pos}{ti:TI}{asg:TA}{tb:TS}{tg:Expr→Prop}(htg:tg target)(hi:Hid (DO G lv env vars tg iter ti))(hg:Hid (HY G lv env vars target asg))(hb:Hid (RBk G lv env vars body tb))(hs:∀ x,foldedSetIterable iter env x=pure x:=by intro _;rfl):Hid (RS G lv env vars (.For target iter body [] pos) (Gw ti asg tb)):=⟨R_for (htg:=htg) (hi:=hi.out) (hg:=hg.out) (hb:=hb.out) (hs:=hs)⟩
theorem Yp {e:Expr}{pos:Pos}{t:TE}(h:Hid (RE G lv env vars e t))(hi:interactive env=false:=by rfl)(hs:swapsWith e none pos.line env=pure false:=by rfl):Hid (RS G lv env vars (.Expr e pos) (tSt t)):=⟨A5q (h:=h.out) (hi:=hi) (hs:=hs)⟩
theorem A21 {pos:Pos}:Hid (Ca G lv env vars (.Return none pos) (Bi (tD .none))):=⟨A5I ⟩
theorem A5c {e:Expr}:Hid (Dg G lv env vars e tNo):=⟨S_noT ⟩
theorem A0J {l:Expr}{op:CmpOp}{x:Str}{kk:Nat}{body b:List Stmt}{pos pos₁ pos₂:Pos}{ta:TE}{tx ty:TS}(hl:Hid (Au G lv env vars l ta))(hx:Hid (BE G lv env vars body tx))(hy:Hid (EI G lv env vars (execs b env) FlR ty))(hm:behindInMarks op (.Constant (.str x) kk pos₁)=false:=by with_unfolding_all rfl):Hid (BE G lv env vars (.If (.Compare l [op] [.Constant (.str x) kk pos₁] pos₂) body [] pos::b) (As (Bb (tTr (Aq (B7 op) ta (tD (.str x)))) tx At) ty)):=⟨A3n (hl:=hl.out) (hx:=hx.out) (hy:=hy.out) (hm:=hm)⟩
theorem A20 {target iter:Expr}{body:List Stmt}{pos:Pos}{ti:TI}{asg:TA}{tb:TS}{tg:Expr→Prop}(htg:tg target)(hi:Hid (OR G lv env vars tg iter ti))(hg:Hid (HY G lv env vars target asg))(hb:Hid (BE G lv env vars body tb))(hs:∀ x,foldedSetIterable iter env x=pure x:=by intro _;rfl):Hid (EI G lv env vars (exec (.For target iter body [] pos) env) FlR (Gw ti asg tb)):=⟨A5F (htg:=htg) (hi:=hi.out) (hg:=hg.out) (hb:=hb.out) (hs:=hs)⟩
theorem WQ {keys:List (Option Expr)}{values:List Expr}{slice:Expr}{dpos pos:Pos}{Dt:List (PyData×PyData)}{te:TE}(he:Hid (Au G lv env vars slice te))(hD:litPairs keys values=some Dt)(hk:intKeyed Dt=true)(hn:(intKeysOf Dt).Nodup)(hall:keys.all (·.isSome)=true)(hl:keys.length=values.length) (h0:keys≠[])(hlen:keys.length≤15)(hs:∀ d i t,subscripted slice false (.ref d) (.int i t)=operate [.ref d,.int i t] (getItem (.ref d) (.int i t)):=by intro _ _ _;rfl):Hid (Au G lv env vars (.Subscript (.Dict keys values dpos) slice pos) (N4 Dt te)):=⟨Zh (he:=he.out) (hD:=hD) (hk:=hk) (hn:=hn) (hall:=hall) (hl:=hl) (h0:=h0) (hlen:=hlen) (hs:=hs)⟩
theorem WP {st:Stmt}{b:List Stmt}{x y:TS}(h:Hid (EI G lv env vars (exec st env) FlR x))(k:Hid (BE G lv env vars b y)):Hid (EI G lv env vars (execs (st::b) env) FlR (As x y)):=⟨Zg (h:=h.out) (k:=k.out)⟩
theorem Zd {st:Stmt}{b:List Stmt}{x y:TS}(h:Hid (Ca G lv env vars st x))(k:Hid (EI G lv env vars (execs b env) FlR y)):Hid (EI G lv env vars (execs (st::b) env) FlR (As x y)):=⟨A0P (h:=h.out) (k:=k.out)⟩
theorem A2Z {is:List Nat}{elts es:List Expr}{k k₁:Nat}{tpos vpos pos:Pos}{ts:TEs}(he:BJ env)(hnd:vars.Nodup)(hn:LR env vars is elts)(hs:Hid (Bw G lv env vars es ts)) (h1:swapsWithSole [.Tuple elts k tpos] (.Tuple es k₁ vpos) pos.line env=pure false:=by rfl) (h2:swappedStores [.Tuple elts k tpos] (.Tuple es k₁ vpos) env=pure none:=by rfl):Hid (Ca G lv env vars (.Assign [.Tuple elts k tpos] (.Tuple es k₁ vpos) pos) (Z2 is ts)):=⟨A5y (he:=he) (hnd:=hnd) (hn:=hn) (hs:=hs.out) (h1:=h1) (h2:=h2)⟩
theorem A2Y {o:Expr}{name:Str}{apos pos:Pos}{args:List Expr}{mt:MT}{to:TE}{ts:TEs}(ho:Hid (Ei G lv env vars (eval o env) AV Rc to))(hs:Hid (Bw G lv env vars args ts))(hm:Ng G lv name mt)(h:nSu o=true:=by rfl)(ha:args.all nSt=true:=by rfl)(hl:Nat.ble args.length 20=true:=by rfl)(hp:(apos.endLine == pos.line)=true:=by rfl):Hid (Ei G lv env vars (eval (.Call (.Attribute o name apos) args [] pos) env) AV Rc (tMt mt to ts)):=⟨A5v (ho:=ho.out) (hs:=hs.out) (hm:=hm) (h:=h) (ha:=ha) (hl:=hl) (hp:=hp)⟩
theorem A5b {i:Nat}{b:List Stmt}{t:TS}(h:Hid (BE G lv env vars b t)):Hid (BE G lv env vars b (ON i t)):=⟨S_FzV (h:=h.out)⟩
theorem A2X {l r:Expr}{op:CmpOp}{pos:Pos}{ta tb:TE}(hl:Hid (RE G lv env vars l ta))(hr:Hid (RE G lv env vars r tb))(hm:behindInMarks op r=false:=by with_unfolding_all rfl):Hid (RT G lv env vars (.Compare l [op] [r] pos) (tTr (Aq (B7 op) ta tb))):=⟨A5o (hl:=hl.out) (hr:=hr.out) (hm:=hm)⟩
theorem A0F {op:BoolOp}{es:List Expr}{pos:Pos}{t:TT}(h:Hid (RA G lv env vars op es t)):Hid (RT G lv env vars (.BoolOp op es pos) t):=⟨A3a (h:=h.out)⟩
theorem A2W {is:List Nat}{names:List Str}{elts es:List Expr}{k k₁:Nat}{tpos vpos pos:Pos}{ts:TEs}(he:BJ env)(hnd:vars.Nodup)(hn:Nf env vars is.reverse names.reverse)(hln:names.length=is.length)(hs:Hid (REs G lv env vars es ts)) (h1:swapsWithSole [.Tuple elts k tpos] (.Tuple es k₁ vpos) pos.line env=pure false:=by rfl) (h2:swappedStores [.Tuple elts k tpos] (.Tuple es k₁ vpos) env=pure (some names):=by rfl):Hid (RS G lv env vars (.Assign [.Tuple elts k tpos] (.Tuple es k₁ vpos) pos) (HM is ts)):=⟨A5n (he:=he) (hnd:=hnd) (hn:=hn) (hln:=hln) (hs:=hs.out) (h1:=h1) (h2:=h2)⟩
theorem A5a {e:Expr}{te:TE}(he:Hid (Ei G lv env vars (eval e env) AV Rc te)):Hid (OR G lv env vars (fun ξ=>True) e (tIt te)):=⟨I_it1 (he:=he.out)⟩
theorem A0E {func e:Expr}{te:TE}{pos:Pos}(hf:Hid (Au G lv env vars func (tD (.val (.type "enumerate")))))(he:Hid (Au G lv env vars e te))(h:nAt func=true:=by rfl)(ha:nSt e=true:=by rfl):Hid (DO G lv env vars U7 (.Call func [e] [] pos) (Wz te)):=⟨A22 (hf:=hf.out) (he:=he.out) (h:=h) (ha:=ha)⟩
theorem AN {G:Gl}{lv:Nat}{f:Addr}{name qual:Str}{params:Arguments}{body:List Stmt}{scope:Scope}{dV kV doc pm cdv ct oc:Value}{an od:Option Addr}{osl:Array (Option Value)}{t:TS}(ps:List Str)(vs:List Str)(hlv:0 < lv)(ho:G.K.lookup f=some ⟨oc,od,.func (fnOf name qual params body scope dV kV doc pm an cdv ct),osl⟩)(hk:scope.kind=.function)(hco:scope.isCoroutine=false)(hgen:scope.isGenerator=false)(hcd:codeIn G.K cdv qual=true)(hbind:∀ vals:List Value,vals.length=ps.length→bindArgs (fnOf name qual params body scope dV kV doc pm an cdv ct) ⟨vals,[]⟩=pure (ps.zip vals))(hkd:(ps.all fun y=>scope.names.lookup y == some .local || scope.names.lookup y == some .cell)=true)(hcn:((cellsFrom 0 scope.names []).map (·.1)).Nodup)(hpn:(ps++vs).Nodup)(hb:∀ L',BJ (envOfC qual scope L' f cdv)→Hid (BE G (lv - 1) (envOfC qual scope L' f cdv) (ps++vs) body t)):AY G lv (.ref f) (AT ps.length vs.length t):=A48 (ps:=ps) (vs:=vs) (hlv:=hlv) (ho:=ho) (hk:=hk) (hco:=hco) (hgen:=hgen) (hcd:=hcd) (hbind:=hbind) (hkd:=hkd) (hcn:=hcn) (hpn:=hpn) (hb:=(fun L' h0=>(hb L' h0).out))
theorem Mm {G:Gl}{lv:Nat}{f:Addr}{name qual:Str}{params:Arguments}{body:List Stmt}{scope:Scope}{dV kV doc pm cdv ct oc:Value}{an od:Option Addr}{osl:Array (Option Value)}{t:TS}(ps:List Str)(vs:List Str)(hlv:0 < lv)(ho:G.K.lookup f=some ⟨oc,od,.func (fnOf name qual params body scope dV kV doc pm an cdv ct),osl⟩)(hk:scope.kind=.function)(hco:scope.isCoroutine=false)(hgen:scope.isGenerator=false)(hcd:codeIn G.K cdv qual=true)(hbind:∀ vals:List Value,vals.length=ps.length→bindArgs (fnOf name qual params body scope dV kV doc pm an cdv ct) ⟨vals,[]⟩=pure (ps.zip vals))(hkd:(ps.all fun y=>scope.names.lookup y == some .local || scope.names.lookup y == some .cell)=true)(hcn:((cellsFrom 0 scope.names []).map (·.1)).Nodup)(hpn:(ps++vs).Nodup)(hb:∀ L',BJ (envOfC qual scope L' f cdv)→Hid (RBk G (lv - 1) (envOfC qual scope L' f cdv) (ps++vs) body t)):RV G lv (.ref f) (AT ps.length vs.length t):=A3s (ps:=ps) (vs:=vs) (hlv:=hlv) (ho:=ho) (hk:=hk) (hco:=hco) (hgen:=hgen) (hcd:=hcd) (hbind:=hbind) (hkd:=hkd) (hcn:=hcn) (hpn:=hpn) (hb:=(fun L' h0=>(hb L' h0).out))
theorem Sg {G:Gl}{lv:Nat}{f:Addr}{name qual:Str}{params:Arguments}{body:List Stmt}{scope:Scope}{dV kV doc pm cdv ct oc:Value}{an od:Option Addr}{osl:Array (Option Value)}{t:TS}(ps:List Str)(vs:List Str)(da:List D)(dvs:List Value)(hda:∀ (hT:Heap)(c:Cs),Rl hT c (da.map .d) dvs)(hlv:0 < lv)(ho:G.K.lookup f=some ⟨oc,od,.func (fnOf name qual params body scope dV kV doc pm an cdv ct),osl⟩)(hk:scope.kind=.function)(hco:scope.isCoroutine=false)(hgen:scope.isGenerator=false)(hcd:codeIn G.K cdv qual=true)(hbind:∀ vals:List Value,vals.length+dvs.length=ps.length→∀ h:Heap,G.K.In h→∀ s:Shared,s.heap=h→BindsTo s (fnOf name qual params body scope dV kV doc pm an cdv ct) ⟨vals,[]⟩ (ps.zip (vals++dvs)))(hkd:(ps.all fun y=>scope.names.lookup y == some .local || scope.names.lookup y == some .cell)=true)(hcn:((cellsFrom 0 scope.names []).map (·.1)).Nodup)(hpn:(ps++vs).Nodup)(hb:∀ L',BJ (envOfC qual scope L' f cdv)→Hid (RBk G (lv - 1) (envOfC qual scope L' f cdv) (ps++vs) body t)):RV G lv (.ref f) (Oj ps.length da vs.length t):=A0S (ps:=ps) (vs:=vs) (da:=da) (dvs:=dvs) (hda:=hda) (hlv:=hlv) (ho:=ho) (hk:=hk) (hco:=hco) (hgen:=hgen) (hcd:=hcd) (hbind:=hbind) (hkd:=hkd) (hcn:=hcn) (hpn:=hpn) (hb:=(fun L' h0=>(hb L' h0).out))
theorem BI {α:Type}{G:Gl}{lv:Nat}{env:Env}{vars:List Str}{tree:Sem α}{β:Type}{R:Heap→Cs→β→α→Prop}{t:Lo→Sto→(β→Sto→Prop)→Prop}(h:Hid (FZ G lv env vars tree β R t)):Hid (Nh G lv env vars tree β R t):=⟨FZ.r (h:=h.out)⟩
theorem Be {α:Type}{G:Gl}{lv:Nat}{env:Env}{vars:List Str}{tree:Sem α}{R:Heap→Cs→Fl→α→Prop}{t:TS}(h:Hid (Ni G lv env vars tree R t)):Hid (OS G lv env vars tree R t):=⟨Ni.r (h:=h.out)⟩
theorem WR {α:Type}{tree:Sem α}{β:Type}{R:Heap→Cs→β→α→Prop}{t:Lo→Sto→(β→Sto→Prop)→Prop}(h:Hid (FZ G lv env vars tree β R t)):Hid (Ei G lv env vars tree β R t):=⟨FZ.one (h:=h.out)⟩
end
noncomputable def TopR (G:Gl)(f:Value)(t:CS):Prop:=
  ∀ (s:Shared) (args:List AV) (vals:List Value) (Q:AV→Sto→Prop) (Qc:Value→Shared→Prop),s.heap=G.hT→Rl G.hT ⟨[],[],[]⟩ args vals→t args [] Q →
    (∀ a σ' v h' tk c',Q a σ'→(∀ b o,G.hT.get? b=some o→h'.get? b=some o)→Rc G.hT c' a v→Qc v {s with heap:=h',toks:=tk})→wpR (model G.prog G.w) callerA (call f vals) Qc s
set_option tactic.hygienic true in
theorem A3u {G:Gl}{lv:Nat}{f:Addr}{name qual:Str}{params:Arguments}{body:List Stmt}{scope:Scope}{dV kV doc pm cdv ct oc:Value}{an od:Option Addr}{osl:Array (Option Value)}{t:TS}(ps vs:List Str)(hlv:lv≤40)
    (ho:G.K.lookup f=some ⟨oc,od,.func (fnOf name qual params body scope dV kV doc pm an cdv ct),osl⟩)(hk:scope.kind=.function)(hco:scope.isCoroutine=false)(hgen:scope.isGenerator=false)(hcd:codeIn G.K cdv qual=true)
    (hbind:∀ vals:List Value,vals.length=ps.length→bindArgs (fnOf name qual params body scope dV kV doc pm an cdv ct) ⟨vals,[]⟩=pure (ps.zip vals))
    (hkd:(ps.all fun y=>scope.names.lookup y == some .local || scope.names.lookup y == some .cell)=true)(hcn:((cellsFrom 0 scope.names []).map (·.1)).Nodup)(hpn:(ps++vs).Nodup)
    (hb:∀ L',BJ (envOfC qual scope L' f cdv)→Hid (RBk G lv (envOfC qual scope L' f cdv) (ps++vs) body t)):TopR G (.ref f) (AT ps.length vs.length t):=by
  intro s args vals Q Qc hs ra q k;obtain ⟨hlen,q⟩:=q;have hvl:vals.length=ps.length:=ra.length.symm.trans hlen;have X:G.K.In s.heap:=by rw [hs];exact G.X
  have hpn':=(List.nodup_append.mp hpn).1;refine LS ?_;refine Vr (by decide) (X _ _ ho) rfl hco hgen rfl (codeRec_of X hcd) (BindsTo.of_eq (hbind vals hvl) _ _ _ _ (wpAny_newFunctionEnv_cells hk (kindsX (Tw hkd) _) fun env' he s' x=>?_));subst he;refine ⟨(by rw [hs];exact G.T.nolimit:s.heap.NoLimit).keeps x.toInCall.keep,PL ?_⟩;obtain ⟨h₁,tk,rfl,_⟩:=x.done;have up:=x.toInCall.keep;obtain ⟨cells,NC,Y⟩:=Cl.news (h₀:=s.heap) (Nat.le_refl _) fun n c hm=>⟨x.cell n c (lookup_of_mem_nodup (cellsFrom_names scope.names 0 (s.heap.objs.size+1) [] [] rfl ▸ hcn) hm),x.above n c hm⟩;have Y:CellsAre (bindC (envOfC qual scope s.heap.objs.size f cdv).kindOf (ps.zip vals) fun _=>none) (cellsFrom (s.heap.objs.size+1) scope.names []) cells:=Y;have F₁:Fr s.heap s.heap.objs.size h₁ (bindL (envOfC qual scope s.heap.objs.size f cdv).kindOf (ps.zip vals) fun _=>none):=⟨x.toInCall.ns,fun b o e=>up b o e,Nat.le_refl _⟩;have Cx':Cx G lv (callerA.deeper (envOfC qual scope s.heap.objs.size f cdv)) s.heap s.heap.objs.size:=by
    refine ⟨fun b o e=>by rw [hs];exact e,rfl,?_,?_,callerA,s.heap,[],envOfC qual scope s.heap.objs.size f cdv,below_caller s.heap,Around.frames_deeper rfl,rfl,hk,hgen,hco,rfl,rfl⟩
    · have h1:callerA.depth+1+3 * 40+110 < recursionLimit:=by decide
      show callerA.depth+1+3 * lv+110 < recursionLimit;omega
    · have h1:callerA.units+3+100 * 40+100 < cLine:=by decide
      show callerA.units+3+100 * lv+100 < cLine;omega
  have R₁:Rep G.hT s.heap s.heap.objs.size h₁ (bindL (envOfC qual scope s.heap.objs.size f cdv).kindOf (ps.zip vals) fun _=>none) [] ⟨[],[],[]⟩ (cells++[]):=
    ⟨F₁,by simpa using NC,by simpa using YB Y,.nil⟩
  refine (hb s.heap.objs.size (OV hk)).out (callerA.deeper (envOfC qual scope s.heap.objs.size f cdv)) s.heap s.heap.objs.size _ cells [] _ [] ⟨[],[],[]⟩ {s with heap:=h₁,toks:=tk} _ _ ⟨⟨Cx',R₁,Tx hkd hpn' ra hvl Y⟩,rfl,Tv Y⟩ q ?_
  intro fl ρ' σ' m' cl' c' h' tk' fw q' P' l r;have up':∀ b o,G.hT.get? b=some o→h'.get? b=some o:=fun b o e=>P'.pl.rep.fr.keep b o (by rw [hs];exact e);cases r with
  | next=>exact k _ _ _ h' tk' c' q' up' .none
  | brk=>exact q'.elim
  | cont=>exact q'.elim
  | ret r=>exact k _ _ _ h' tk' c' q' up' r
theorem lh1 {α:Type}{a b:α}{l m:List α}(h:a::l=b::m):a=b:=(List.cons.inj h).1
theorem lt1 {α:Type}{a b:α}{l m:List α}(h:a::l=b::m):l=m:=(List.cons.inj h).2
theorem lt5 {α:Type}{a b c d e i j k o p:α}{l m:List α}(h:a::b::c::d::e::l=i::j::k::o::p::m):l=m:=lt1 (lt1 (lt1 (lt1 (lt1 h))))
noncomputable abbrev nsP (G:Gl) (x:String) (v:Option Value):Prop:=nsIn G.K mainGlobals (Str.ofString x)=some v
noncomputable abbrev atP (G:Gl) (C:Addr) (x:String):Prop:=[C].all (fun C=>Ve G.K C (Str.ofString x))=true
noncomputable abbrev stP (G:Gl) (C:Addr) (x:String):Prop:=[C].all (fun C=>Ww G.K C (Str.ofString x))=true
section
variable {G:Gl}{P:Params}(hK:G.K=kk.heap_1 P)
include hK
theorem oX {a:Addr}{o:Obj}(h:(kk.heap_1 P).lookup a=some o):Pm G.hT [] a o:=.inr (G.X _ _ (hK ▸ h))
theorem Lh:["abs","all","any","bytearray","bytes","chr","enumerate","int","len","list","max","min","ord","range","str","tuple"].map (fun x:String=>nsIn G.K mainGlobals (Str.ofString x))=List.replicate 16 (some none:Option (Option Value)):=by rw [hK];kernel_rfl
theorem A2e:nsP G "abs" none:=lh1 (Lh hK)
theorem A7i:nsP G "all" none:=lh1 (lt1 (Lh hK))
theorem A7j:nsP G "any" none:=lh1 (lt1 (lt1 (Lh hK)))
theorem Ug:nsP G "bytearray" none:=lh1 (lt1 (lt1 (lt1 (Lh hK))))
theorem A2f:nsP G "bytes" none:=lh1 (lt1 (lt1 (lt1 (lt1 (Lh hK)))))
theorem A7k:nsP G "chr" none:=lh1 (lt5 (Lh hK))
theorem Uh:nsP G "enumerate" none:=lh1 (lt1 (lt5 (Lh hK)))
theorem A7l:nsP G "int" none:=lh1 (lt1 (lt1 (lt5 (Lh hK))))
theorem BO:nsP G "len" none:=lh1 (lt1 (lt1 (lt1 (lt5 (Lh hK)))))
theorem A4d:nsP G "list" none:=lh1 (lt1 (lt1 (lt1 (lt1 (lt5 (Lh hK))))))
theorem A7m:nsP G "max" none:=lh1 (lt5 (lt5 (Lh hK)))
theorem A7n:nsP G "min" none:=lh1 (lt1 (lt5 (lt5 (Lh hK))))
theorem A7o:nsP G "ord" none:=lh1 (lt1 (lt1 (lt5 (lt5 (Lh hK)))))
theorem Qj:nsP G "range" none:=lh1 (lt1 (lt1 (lt1 (lt5 (lt5 (Lh hK))))))
theorem Kf:nsP G "str" none:=lh1 (lt1 (lt1 (lt1 (lt1 (lt5 (lt5 (Lh hK)))))))
theorem G6:nsP G "tuple" none:=lh1 (lt5 (lt5 (lt5 (Lh hK))))
theorem Go:["BLOCK","CALL","CALL_INDIRECT","COUNTS","ELSE","END","FIXED","FORMS","FUNCTION","Folder","Func","HEAP_NAMES","I32","IF","Import","KIND_NAMES","LOADS","LOOP","MEMORY","MODULE_MARK","Module","NAMES","NUMBERS","Printer","ROWS"].map (fun x:String=>nsIn G.K mainGlobals (Str.ofString x))=[.int (2) 255,.int (16) 273,.int (17) 275,.ref 523,.int (5) 261,.int (11) 263,.ref 61,.ref 58,.int (0) 211,.ref 744,.ref 220,.ref 23,.int (-1) 197,.int (4) 259,.ref 192,.ref 22,.ref 37,.int (3) 257,.int (2) 215,.str s!"(module" 1316,.ref 443,.ref 511,.ref 140,.ref 864,.ref 510].map (fun v:Value=>some (some v)):=by rw [hK];kernel_rfl
theorem W1:nsP G "BLOCK" (some (.int (2) 255)):=lh1 (Go hK)
theorem A4f:nsP G "CALL" (some (.int (16) 273)):=lh1 (lt1 (Go hK))
theorem NK:nsP G "CALL_INDIRECT" (some (.int (17) 275)):=lh1 (lt1 (lt1 (Go hK)))
theorem SJ:nsP G "COUNTS" (some (.ref 523)):=lh1 (lt1 (lt1 (lt1 (Go hK))))
theorem Um:nsP G "ELSE" (some (.int (5) 261)):=lh1 (lt1 (lt1 (lt1 (lt1 (Go hK)))))
theorem A2j:nsP G "END" (some (.int (11) 263)):=lh1 (lt5 (Go hK))
theorem W2:nsP G "FIXED" (some (.ref 61)):=lh1 (lt1 (lt5 (Go hK)))
theorem W3:nsP G "FORMS" (some (.ref 58)):=lh1 (lt1 (lt1 (lt5 (Go hK))))
theorem G7:nsP G "FUNCTION" (some (.int (0) 211)):=lh1 (lt1 (lt1 (lt1 (lt5 (Go hK)))))
theorem A0a:nsP G "Folder" (some (.ref 744)):=lh1 (lt1 (lt1 (lt1 (lt1 (lt5 (Go hK))))))
theorem Un:nsP G "Func" (some (.ref 220)):=lh1 (lt5 (lt5 (Go hK)))
theorem RP:nsP G "HEAP_NAMES" (some (.ref 23)):=lh1 (lt1 (lt5 (lt5 (Go hK))))
theorem A2k:nsP G "I32" (some (.int (-1) 197)):=lh1 (lt1 (lt1 (lt5 (lt5 (Go hK)))))
theorem A40:nsP G "IF" (some (.int (4) 259)):=lh1 (lt1 (lt1 (lt1 (lt5 (lt5 (Go hK))))))
theorem A0b:nsP G "Import" (some (.ref 192)):=lh1 (lt1 (lt1 (lt1 (lt1 (lt5 (lt5 (Go hK)))))))
theorem RQ:nsP G "KIND_NAMES" (some (.ref 22)):=lh1 (lt5 (lt5 (lt5 (Go hK))))
theorem Ki:nsP G "LOADS" (some (.ref 37)):=lh1 (lt1 (lt5 (lt5 (lt5 (Go hK)))))
theorem YT:nsP G "LOOP" (some (.int (3) 257)):=lh1 (lt1 (lt1 (lt5 (lt5 (lt5 (Go hK))))))
theorem A0c:nsP G "MEMORY" (some (.int (2) 215)):=lh1 (lt1 (lt1 (lt1 (lt5 (lt5 (lt5 (Go hK)))))))
theorem Qk:nsP G "MODULE_MARK" (some (.str s!"(module" 1316)):=lh1 (lt1 (lt1 (lt1 (lt1 (lt5 (lt5 (lt5 (Go hK))))))))
theorem A0d:nsP G "Module" (some (.ref 443)):=lh1 (lt5 (lt5 (lt5 (lt5 (Go hK)))))
theorem W4:nsP G "NAMES" (some (.ref 511)):=lh1 (lt1 (lt5 (lt5 (lt5 (lt5 (Go hK))))))
theorem XN:nsP G "NUMBERS" (some (.ref 140)):=lh1 (lt1 (lt1 (lt5 (lt5 (lt5 (lt5 (Go hK)))))))
theorem Ql:nsP G "Printer" (some (.ref 864)):=lh1 (lt1 (lt1 (lt1 (lt5 (lt5 (lt5 (lt5 (Go hK))))))))
theorem A4g:nsP G "ROWS" (some (.ref 510)):=lh1 (lt1 (lt1 (lt1 (lt1 (lt5 (lt5 (lt5 (lt5 (Go hK)))))))))
theorem Gp:["STEP","STORES","TABLE","Told","_law_body_of","_law_counts","_law_flat","_law_folded","_law_kinds","_law_menu","_law_rows","body_rows","counts_of","fold_module","form_of","ids_of","instruction_text","kind_name","kinds_text","list_text","memarg_text","name_of","name_text","natural","number_kind"].map (fun x:String=>nsIn G.K mainGlobals (Str.ofString x))=[.str s!"  " 1312,.ref 50,.int (1) 213,.ref 622,.ref 962,.ref 943,.ref 957,.ref 950,.ref 904,.ref 936,.ref 929,.ref 671,.ref 678,.ref 891,.ref 154,.ref 556,.ref 652,.ref 31,.ref 36,.ref 563,.ref 640,.ref 522,.ref 551,.ref 168,.ref 147].map (fun v:Value=>some (some v)):=by rw [hK];kernel_rfl
theorem Uo:nsP G "STEP" (some (.str s!"  " 1312)):=lh1 (Gp hK)
theorem KT:nsP G "STORES" (some (.ref 50)):=lh1 (lt1 (Gp hK))
theorem A2l:nsP G "TABLE" (some (.int (1) 213)):=lh1 (lt1 (lt1 (Gp hK)))
theorem Up:nsP G "Told" (some (.ref 622)):=lh1 (lt1 (lt1 (lt1 (Gp hK))))
theorem Kj:nsP G "_law_body_of" (some (.ref 962)):=lh1 (lt1 (lt1 (lt1 (lt1 (Gp hK)))))
theorem RW:nsP G "_law_counts" (some (.ref 943)):=lh1 (lt5 (Gp hK))
theorem W5:nsP G "_law_flat" (some (.ref 957)):=lh1 (lt1 (lt5 (Gp hK)))
theorem RX:nsP G "_law_folded" (some (.ref 950)):=lh1 (lt1 (lt1 (lt5 (Gp hK))))
theorem Fd:nsP G "_law_kinds" (some (.ref 904)):=lh1 (lt1 (lt1 (lt1 (lt5 (Gp hK)))))
theorem W6:nsP G "_law_menu" (some (.ref 936)):=lh1 (lt1 (lt1 (lt1 (lt1 (lt5 (Gp hK))))))
theorem W7:nsP G "_law_rows" (some (.ref 929)):=lh1 (lt5 (lt5 (Gp hK)))
theorem Uq:nsP G "body_rows" (some (.ref 671)):=lh1 (lt1 (lt5 (lt5 (Gp hK))))
theorem MN:nsP G "counts_of" (some (.ref 678)):=lh1 (lt1 (lt1 (lt5 (lt5 (Gp hK)))))
theorem Qm:nsP G "fold_module" (some (.ref 891)):=lh1 (lt1 (lt1 (lt1 (lt5 (lt5 (Gp hK))))))
theorem XO:nsP G "form_of" (some (.ref 154)):=lh1 (lt1 (lt1 (lt1 (lt1 (lt5 (lt5 (Gp hK)))))))
theorem SK:nsP G "ids_of" (some (.ref 556)):=lh1 (lt5 (lt5 (lt5 (Gp hK))))
theorem Es:nsP G "instruction_text" (some (.ref 652)):=lh1 (lt1 (lt5 (lt5 (lt5 (Gp hK)))))
theorem Ur:nsP G "kind_name" (some (.ref 31)):=lh1 (lt1 (lt1 (lt5 (lt5 (lt5 (Gp hK))))))
theorem RR:nsP G "kinds_text" (some (.ref 36)):=lh1 (lt1 (lt1 (lt1 (lt5 (lt5 (lt5 (Gp hK)))))))
theorem GP:nsP G "list_text" (some (.ref 563)):=lh1 (lt1 (lt1 (lt1 (lt1 (lt5 (lt5 (lt5 (Gp hK))))))))
theorem Qn:nsP G "memarg_text" (some (.ref 640)):=lh1 (lt5 (lt5 (lt5 (lt5 (Gp hK)))))
theorem XQ:nsP G "name_of" (some (.ref 522)):=lh1 (lt1 (lt5 (lt5 (lt5 (lt5 (Gp hK))))))
theorem MO:nsP G "name_text" (some (.ref 551)):=lh1 (lt1 (lt1 (lt5 (lt5 (lt5 (lt5 (Gp hK)))))))
theorem XR:nsP G "natural" (some (.ref 168)):=lh1 (lt1 (lt1 (lt1 (lt5 (lt5 (lt5 (lt5 (Gp hK))))))))
theorem Kk:nsP G "number_kind" (some (.ref 147)):=lh1 (lt1 (lt1 (lt1 (lt1 (lt5 (lt5 (lt5 (lt5 (Gp hK)))))))))
theorem VK:["parts_of","print_instruction","print_module","stack_of","string_text","told_index","utf8_of","words_of"].map (fun x:String=>nsIn G.K mainGlobals (Str.ofString x))=[.ref 452,.ref 659,.ref 883,.ref 161,.ref 544,.ref 633,.ref 503,.ref 645].map (fun v:Value=>some (some v)):=by rw [hK];kernel_rfl
theorem EZ:nsP G "parts_of" (some (.ref 452)):=lh1 (VK hK)
theorem Kl:nsP G "print_instruction" (some (.ref 659)):=lh1 (lt1 (VK hK))
theorem OE:nsP G "print_module" (some (.ref 883)):=lh1 (lt1 (lt1 (VK hK)))
theorem W8:nsP G "stack_of" (some (.ref 161)):=lh1 (lt1 (lt1 (lt1 (VK hK))))
theorem Qo:nsP G "string_text" (some (.ref 544)):=lh1 (lt1 (lt1 (lt1 (lt1 (VK hK)))))
theorem LH:nsP G "told_index" (some (.ref 633)):=lh1 (lt5 (VK hK))
theorem XU:nsP G "utf8_of" (some (.ref 503)):=lh1 (lt1 (lt5 (VK hK)))
theorem Oh:nsP G "words_of" (some (.ref 645)):=lh1 (lt1 (lt1 (lt5 (VK hK))))
omit hK in
theorem Lg:["abs","all","any","bytearray","bytes","chr","enumerate","int","len","list","max","min","ord","range","str","tuple"].map (fun x:String=>bootBuiltins (Str.ofString x))=[.builtin "abs",.builtin "all",.builtin "any",.type "bytearray",.type "bytes",.builtin "chr",.type "enumerate",.type "int",.builtin "len",.type "list",.builtin "max",.builtin "min",.builtin "ord",.type "range",.type "str",.type "tuple"].map (fun v:Value=>some v):=by kernel_rfl
omit hK in
theorem A08:bootBuiltins s!"abs" = some (.builtin "abs"):=lh1 Lg
omit hK in
theorem A5W:bootBuiltins s!"all" = some (.builtin "all"):=lh1 (lt1 Lg)
omit hK in
theorem A5X:bootBuiltins s!"any" = some (.builtin "any"):=lh1 (lt1 (lt1 Lg))
omit hK in
theorem Tt:bootBuiltins s!"bytearray" = some (.type "bytearray"):=lh1 (lt1 (lt1 (lt1 Lg)))
omit hK in
theorem A09:bootBuiltins s!"bytes" = some (.type "bytes"):=lh1 (lt1 (lt1 (lt1 (lt1 Lg))))
omit hK in
theorem A5Y:bootBuiltins s!"chr" = some (.builtin "chr"):=lh1 (lt5 Lg)
omit hK in
theorem Tu:bootBuiltins s!"enumerate" = some (.type "enumerate"):=lh1 (lt1 (lt5 Lg))
omit hK in
theorem A5Z:bootBuiltins s!"int" = some (.type "int"):=lh1 (lt1 (lt1 (lt5 Lg)))
omit hK in
theorem BM:bootBuiltins s!"len" = some (.builtin "len"):=lh1 (lt1 (lt1 (lt1 (lt5 Lg))))
omit hK in
theorem A3D:bootBuiltins s!"list" = some (.type "list"):=lh1 (lt1 (lt1 (lt1 (lt1 (lt5 Lg)))))
omit hK in
theorem A50:bootBuiltins s!"max" = some (.builtin "max"):=lh1 (lt5 (lt5 Lg))
omit hK in
theorem A51:bootBuiltins s!"min" = some (.builtin "min"):=lh1 (lt1 (lt5 (lt5 Lg)))
omit hK in
theorem A52:bootBuiltins s!"ord" = some (.builtin "ord"):=lh1 (lt1 (lt1 (lt5 (lt5 Lg))))
omit hK in
theorem PA:bootBuiltins s!"range" = some (.type "range"):=lh1 (lt1 (lt1 (lt1 (lt5 (lt5 Lg)))))
omit hK in
theorem JU:bootBuiltins s!"str" = some (.type "str"):=lh1 (lt1 (lt1 (lt1 (lt1 (lt5 (lt5 Lg))))))
omit hK in
theorem G1:bootBuiltins s!"tuple" = some (.type "tuple"):=lh1 (lt5 (lt5 (lt5 Lg)))
theorem Gm:[(744,"depth"),(744,"module"),(744,"rows"),(744,"told"),(744,"values"),(220,"body"),(220,"kind"),(220,"locals"),(192,"about"),(192,"name"),(192,"place"),(192,"sort"),(443,"customs"),(443,"datas"),(443,"elems"),(443,"exports"),(443,"funcs"),(443,"globals"),(443,"imports"),(443,"kinds"),(443,"memories"),(443,"start"),(443,"tables"),(864,"func_ids"),(864,"is_folded")].map (fun p:Nat×String=>[p.1].all fun C=>Ve G.K C (Str.ofString p.2))=List.replicate 25 true:=by rw [hK];kernel_rfl
theorem Os:atP G 744 "depth" := lh1 (Gm hK)
theorem Nj:atP G 744 "module" := lh1 (lt1 (Gm hK))
theorem JM:atP G 744 "rows" := lh1 (lt1 (lt1 (Gm hK)))
theorem Ps:atP G 744 "told" := lh1 (lt1 (lt1 (lt1 (Gm hK))))
theorem Cv:atP G 744 "values" := lh1 (lt1 (lt1 (lt1 (lt1 (Gm hK)))))
theorem IE:atP G 220 "body" := lh1 (lt5 (Gm hK))
theorem F6:atP G 220 "kind" := lh1 (lt1 (lt5 (Gm hK)))
theorem H3:atP G 220 "locals" := lh1 (lt1 (lt1 (lt5 (Gm hK))))
theorem Gi:atP G 192 "about" := lh1 (lt1 (lt1 (lt1 (lt5 (Gm hK)))))
theorem JN:atP G 192 "name" := lh1 (lt1 (lt1 (lt1 (lt1 (lt5 (Gm hK))))))
theorem Ja:atP G 192 "place" := lh1 (lt5 (lt5 (Gm hK)))
theorem Dh:atP G 192 "sort" := lh1 (lt1 (lt5 (lt5 (Gm hK))))
theorem Mt:atP G 443 "customs" := lh1 (lt1 (lt1 (lt5 (lt5 (Gm hK)))))
theorem Jb:atP G 443 "datas" := lh1 (lt1 (lt1 (lt1 (lt5 (lt5 (Gm hK))))))
theorem Jc:atP G 443 "elems" := lh1 (lt1 (lt1 (lt1 (lt1 (lt5 (lt5 (Gm hK)))))))
theorem HD:atP G 443 "exports" := lh1 (lt5 (lt5 (lt5 (Gm hK))))
theorem EJ:atP G 443 "funcs" := lh1 (lt1 (lt5 (lt5 (lt5 (Gm hK)))))
theorem F7:atP G 443 "globals" := lh1 (lt1 (lt1 (lt5 (lt5 (lt5 (Gm hK))))))
theorem F8:atP G 443 "imports" := lh1 (lt1 (lt1 (lt1 (lt5 (lt5 (lt5 (Gm hK)))))))
theorem C6:atP G 443 "kinds" := lh1 (lt1 (lt1 (lt1 (lt1 (lt5 (lt5 (lt5 (Gm hK))))))))
theorem EQ:atP G 443 "memories" := lh1 (lt5 (lt5 (lt5 (lt5 (Gm hK)))))
theorem Jd:atP G 443 "start" := lh1 (lt1 (lt5 (lt5 (lt5 (lt5 (Gm hK))))))
theorem Fz:atP G 443 "tables" := lh1 (lt1 (lt1 (lt5 (lt5 (lt5 (lt5 (Gm hK)))))))
theorem CZ:atP G 864 "func_ids" := lh1 (lt1 (lt1 (lt1 (lt5 (lt5 (lt5 (lt5 (Gm hK))))))))
theorem JO:atP G 864 "is_folded" := lh1 (lt1 (lt1 (lt1 (lt1 (lt5 (lt5 (lt5 (lt5 (Gm hK)))))))))
theorem A3R:[(864,"module"),(864,"names"),(622,"func_ids"),(622,"local_ids")].map (fun p:Nat×String=>[p.1].all fun C=>Ve G.K C (Str.ofString p.2))=List.replicate 4 true:=by rw [hK];kernel_rfl
theorem B0:atP G 864 "module" := lh1 (A3R hK)
theorem Iq:atP G 864 "names" := lh1 (lt1 (A3R hK))
theorem Nk:atP G 622 "func_ids" := lh1 (lt1 (lt1 (A3R hK)))
theorem Mu:atP G 622 "local_ids" := lh1 (lt1 (lt1 (lt1 (A3R hK))))
theorem Gq:[(744,"closers"),(744,"depth"),(744,"module"),(744,"rows"),(744,"told"),(744,"values"),(220,"body"),(220,"kind"),(220,"locals"),(192,"about"),(192,"name"),(192,"place"),(192,"sort"),(443,"customs"),(443,"datas"),(443,"elems"),(443,"exports"),(443,"funcs"),(443,"globals"),(443,"imports"),(443,"kinds"),(443,"memories"),(443,"start"),(443,"tables"),(864,"func_ids")].map (fun p:Nat×String=>[p.1].all fun C=>Ww G.K C (Str.ofString p.2))=List.replicate 25 true:=by rw [hK];kernel_rfl
theorem MW:stP G 744 "closers" := lh1 (Gq hK)
theorem OH:stP G 744 "depth" := lh1 (lt1 (Gq hK))
theorem NO:stP G 744 "module" := lh1 (lt1 (lt1 (Gq hK)))
theorem QC:stP G 744 "rows" := lh1 (lt1 (lt1 (lt1 (Gq hK))))
theorem QD:stP G 744 "told" := lh1 (lt1 (lt1 (lt1 (lt1 (Gq hK)))))
theorem FB:stP G 744 "values" := lh1 (lt5 (Gq hK))
theorem UK:stP G 220 "body" := lh1 (lt1 (lt5 (Gq hK)))
theorem UL:stP G 220 "kind" := lh1 (lt1 (lt1 (lt5 (Gq hK))))
theorem QE:stP G 220 "locals" := lh1 (lt1 (lt1 (lt1 (lt5 (Gq hK)))))
theorem OI:stP G 192 "about" := lh1 (lt1 (lt1 (lt1 (lt1 (lt5 (Gq hK))))))
theorem QF:stP G 192 "name" := lh1 (lt5 (lt5 (Gq hK)))
theorem OJ:stP G 192 "place" := lh1 (lt1 (lt5 (lt5 (Gq hK))))
theorem QG:stP G 192 "sort" := lh1 (lt1 (lt1 (lt5 (lt5 (Gq hK)))))
theorem MX:stP G 443 "customs" := lh1 (lt1 (lt1 (lt1 (lt5 (lt5 (Gq hK))))))
theorem OK:stP G 443 "datas" := lh1 (lt1 (lt1 (lt1 (lt1 (lt5 (lt5 (Gq hK)))))))
theorem OL:stP G 443 "elems" := lh1 (lt5 (lt5 (lt5 (Gq hK))))
theorem MY:stP G 443 "exports" := lh1 (lt1 (lt5 (lt5 (lt5 (Gq hK)))))
theorem Jh:stP G 443 "funcs" := lh1 (lt1 (lt1 (lt5 (lt5 (lt5 (Gq hK))))))
theorem MZ:stP G 443 "globals" := lh1 (lt1 (lt1 (lt1 (lt5 (lt5 (lt5 (Gq hK)))))))
theorem HL:stP G 443 "imports" := lh1 (lt1 (lt1 (lt1 (lt1 (lt5 (lt5 (lt5 (Gq hK))))))))
theorem Ji:stP G 443 "kinds" := lh1 (lt5 (lt5 (lt5 (lt5 (Gq hK)))))
theorem Me:stP G 443 "memories" := lh1 (lt1 (lt5 (lt5 (lt5 (lt5 (Gq hK))))))
theorem OM:stP G 443 "start" := lh1 (lt1 (lt1 (lt5 (lt5 (lt5 (lt5 (Gq hK)))))))
theorem NP:stP G 443 "tables" := lh1 (lt1 (lt1 (lt1 (lt5 (lt5 (lt5 (lt5 (Gq hK))))))))
theorem Lq:stP G 864 "func_ids" := lh1 (lt1 (lt1 (lt1 (lt1 (lt5 (lt5 (lt5 (lt5 (Gq hK)))))))))
theorem ZM:[(864,"is_folded"),(864,"module"),(864,"names"),(864,"plain_told"),(622,"func_ids"),(622,"local_ids")].map (fun p:Nat×String=>[p.1].all fun C=>Ww G.K C (Str.ofString p.2))=List.replicate 6 true:=by rw [hK];kernel_rfl
theorem Ks:stP G 864 "is_folded" := lh1 (ZM hK)
theorem N0:stP G 864 "module" := lh1 (lt1 (ZM hK))
theorem NQ:stP G 864 "names" := lh1 (lt1 (lt1 (ZM hK)))
theorem Jy:stP G 864 "plain_told" := lh1 (lt1 (lt1 (lt1 (ZM hK))))
theorem NS:stP G 622 "func_ids" := lh1 (lt1 (lt1 (lt1 (lt1 (ZM hK)))))
theorem N3:stP G 622 "local_ids" := lh1 (lt5 (ZM hK))
theorem Gn:[(744,"flush",706),(744,"fold",741),(744,"row",699),(744,"single",734),(220,"plain",217),(192,"plain",189),(443,"abouts",360),(443,"func_kinds",365),(443,"imported",355),(443,"many",393),(443,"plain",421),(864,"about_text",783),(864,"export_rows",849),(864,"func_rows",816),(864,"global_rows",823),(864,"head_text",802),(864,"id_ahead",776),(864,"import_rows",790),(864,"kind_of",809),(864,"kind_rows",769),(864,"local_ids",797),(864,"mark",861),(864,"small_rows",842),(864,"text",854),(622,"func",612)].map (fun p:Nat×String×Nat=>Ed G.K p.1 (Str.ofString p.2.1) p.2.2)=List.replicate 25 true:=by rw [hK];kernel_rfl
theorem Gr:Ed G.K 744 s!"flush" 706=true:=lh1 (Gn hK)
theorem Qh:Ed G.K 744 s!"fold" 741=true:=lh1 (lt1 (Gn hK))
theorem I8:Ed G.K 744 s!"row" 699=true:=lh1 (lt1 (lt1 (Gn hK)))
theorem NG:Ed G.K 744 s!"single" 734=true:=lh1 (lt1 (lt1 (lt1 (Gn hK))))
theorem RN:Ed G.K 220 s!"plain" 217=true:=lh1 (lt1 (lt1 (lt1 (lt1 (Gn hK)))))
theorem OC:Ed G.K 192 s!"plain" 189=true:=lh1 (lt5 (Gn hK))
theorem Iu:Ed G.K 443 s!"abouts" 360=true:=lh1 (lt1 (lt5 (Gn hK)))
theorem Ka:Ed G.K 443 s!"func_kinds" 365=true:=lh1 (lt1 (lt1 (lt5 (Gn hK))))
theorem He:Ed G.K 443 s!"imported" 355=true:=lh1 (lt1 (lt1 (lt1 (lt5 (Gn hK)))))
theorem Qi:Ed G.K 443 s!"many" 393=true:=lh1 (lt1 (lt1 (lt1 (lt1 (lt5 (Gn hK))))))
theorem Jf:Ed G.K 443 s!"plain" 421=true:=lh1 (lt5 (lt5 (Gn hK)))
theorem Js:Ed G.K 864 s!"about_text" 783=true:=lh1 (lt1 (lt5 (lt5 (Gn hK))))
theorem IQ:Ed G.K 864 s!"export_rows" 849=true:=lh1 (lt1 (lt1 (lt5 (lt5 (Gn hK)))))
theorem Kb:Ed G.K 864 s!"func_rows" 816=true:=lh1 (lt1 (lt1 (lt1 (lt5 (lt5 (Gn hK))))))
theorem IR:Ed G.K 864 s!"global_rows" 823=true:=lh1 (lt1 (lt1 (lt1 (lt1 (lt5 (lt5 (Gn hK)))))))
theorem Kc:Ed G.K 864 s!"head_text" 802=true:=lh1 (lt5 (lt5 (lt5 (Gn hK))))
theorem GG:Ed G.K 864 s!"id_ahead" 776=true:=lh1 (lt1 (lt5 (lt5 (lt5 (Gn hK)))))
theorem IS:Ed G.K 864 s!"import_rows" 790=true:=lh1 (lt1 (lt1 (lt5 (lt5 (lt5 (Gn hK))))))
theorem Hf:Ed G.K 864 s!"kind_of" 809=true:=lh1 (lt1 (lt1 (lt1 (lt5 (lt5 (lt5 (Gn hK)))))))
theorem Kd:Ed G.K 864 s!"kind_rows" 769=true:=lh1 (lt1 (lt1 (lt1 (lt1 (lt5 (lt5 (lt5 (Gn hK))))))))
theorem Ke:Ed G.K 864 s!"local_ids" 797=true:=lh1 (lt5 (lt5 (lt5 (lt5 (Gn hK)))))
theorem OD:Ed G.K 864 s!"mark" 861=true:=lh1 (lt1 (lt5 (lt5 (lt5 (lt5 (Gn hK))))))
theorem Jt:Ed G.K 864 s!"small_rows" 842=true:=lh1 (lt1 (lt1 (lt5 (lt5 (lt5 (lt5 (Gn hK)))))))
theorem Jg:Ed G.K 864 s!"text" 854=true:=lh1 (lt1 (lt1 (lt1 (lt5 (lt5 (lt5 (lt5 (Gn hK))))))))
theorem Ue:Ed G.K 622 s!"func" 612=true:=lh1 (lt1 (lt1 (lt1 (lt1 (lt5 (lt5 (lt5 (lt5 (Gn hK)))))))))
theorem fme1:[(622,"local",619)].map (fun p:Nat×String×Nat=>Ed G.K p.1 (Str.ofString p.2.1) p.2.2)=List.replicate 1 true:=by rw [hK];kernel_rfl
theorem RO:Ed G.K 622 s!"local" 619=true:=lh1 (fme1 hK)
theorem Hv:[31,36,147,154,161,168,182,189,192,210,217,220,348,355,360,365,393,421,443,452,503,522,544,551,556].map (fun a:Nat=>keeps G.K (.ref a))=List.replicate 25 true:=by rw [hK];kernel_rfl
theorem kf_31:keeps G.K (.ref 31)=true:=lh1 (Hv hK)
theorem kf_36:keeps G.K (.ref 36)=true:=lh1 (lt1 (Hv hK))
theorem A1T:keeps G.K (.ref 147)=true:=lh1 (lt1 (lt1 (Hv hK)))
theorem A6E:keeps G.K (.ref 154)=true:=lh1 (lt1 (lt1 (lt1 (Hv hK))))
theorem A6F:keeps G.K (.ref 161)=true:=lh1 (lt1 (lt1 (lt1 (lt1 (Hv hK)))))
theorem A6G:keeps G.K (.ref 168)=true:=lh1 (lt5 (Hv hK))
theorem A6H:keeps G.K (.ref 189)=true:=lh1 (lt1 (lt1 (lt5 (Hv hK))))
theorem A6I:keeps G.K (.ref 192)=true:=lh1 (lt1 (lt1 (lt1 (lt5 (Hv hK)))))
theorem A6J:keeps G.K (.ref 217)=true:=lh1 (lt5 (lt5 (Hv hK)))
theorem XB:keeps G.K (.ref 220)=true:=lh1 (lt1 (lt5 (lt5 (Hv hK))))
theorem A1U:keeps G.K (.ref 355)=true:=lh1 (lt1 (lt1 (lt1 (lt5 (lt5 (Hv hK))))))
theorem A1V:keeps G.K (.ref 360)=true:=lh1 (lt1 (lt1 (lt1 (lt1 (lt5 (lt5 (Hv hK)))))))
theorem A6K:keeps G.K (.ref 365)=true:=lh1 (lt5 (lt5 (lt5 (Hv hK))))
theorem A6L:keeps G.K (.ref 393)=true:=lh1 (lt1 (lt5 (lt5 (lt5 (Hv hK)))))
theorem A1W:keeps G.K (.ref 421)=true:=lh1 (lt1 (lt1 (lt5 (lt5 (lt5 (Hv hK))))))
theorem A6M:keeps G.K (.ref 443)=true:=lh1 (lt1 (lt1 (lt1 (lt5 (lt5 (lt5 (Hv hK)))))))
theorem NB:keeps G.K (.ref 452)=true:=lh1 (lt1 (lt1 (lt1 (lt1 (lt5 (lt5 (lt5 (Hv hK))))))))
theorem A6N:keeps G.K (.ref 503)=true:=lh1 (lt5 (lt5 (lt5 (lt5 (Hv hK)))))
theorem A6O:keeps G.K (.ref 522)=true:=lh1 (lt1 (lt5 (lt5 (lt5 (lt5 (Hv hK))))))
theorem A6P:keeps G.K (.ref 544)=true:=lh1 (lt1 (lt1 (lt5 (lt5 (lt5 (lt5 (Hv hK)))))))
theorem A1X:keeps G.K (.ref 551)=true:=lh1 (lt1 (lt1 (lt1 (lt5 (lt5 (lt5 (lt5 (Hv hK))))))))
theorem A1Y:keeps G.K (.ref 556)=true:=lh1 (lt1 (lt1 (lt1 (lt1 (lt5 (lt5 (lt5 (lt5 (Hv hK)))))))))
theorem Hw:[563,605,612,619,622,633,640,645,652,659,671,678,692,699,706,734,741,744,762,769,776,783,790,797,802].map (fun a:Nat=>keeps G.K (.ref a))=List.replicate 25 true:=by rw [hK];kernel_rfl
theorem U9:keeps G.K (.ref 563)=true:=lh1 (Hw hK)
theorem A6Q:keeps G.K (.ref 612)=true:=lh1 (lt1 (lt1 (Hw hK)))
theorem A6R:keeps G.K (.ref 619)=true:=lh1 (lt1 (lt1 (lt1 (Hw hK))))
theorem XD:keeps G.K (.ref 622)=true:=lh1 (lt1 (lt1 (lt1 (lt1 (Hw hK)))))
theorem A1Z:keeps G.K (.ref 633)=true:=lh1 (lt5 (Hw hK))
theorem A6S:keeps G.K (.ref 640)=true:=lh1 (lt1 (lt5 (Hw hK)))
theorem A10:keeps G.K (.ref 645)=true:=lh1 (lt1 (lt1 (lt5 (Hw hK))))
theorem XF:keeps G.K (.ref 652)=true:=lh1 (lt1 (lt1 (lt1 (lt5 (Hw hK)))))
theorem A6T:keeps G.K (.ref 659)=true:=lh1 (lt1 (lt1 (lt1 (lt1 (lt5 (Hw hK))))))
theorem A6U:keeps G.K (.ref 671)=true:=lh1 (lt5 (lt5 (Hw hK)))
theorem A11:keeps G.K (.ref 678)=true:=lh1 (lt1 (lt5 (lt5 (Hw hK))))
theorem XG:keeps G.K (.ref 699)=true:=lh1 (lt1 (lt1 (lt1 (lt5 (lt5 (Hw hK))))))
theorem XH:keeps G.K (.ref 706)=true:=lh1 (lt1 (lt1 (lt1 (lt1 (lt5 (lt5 (Hw hK)))))))
theorem A6V:keeps G.K (.ref 734)=true:=lh1 (lt5 (lt5 (lt5 (Hw hK))))
theorem A6W:keeps G.K (.ref 741)=true:=lh1 (lt1 (lt5 (lt5 (lt5 (Hw hK)))))
theorem A6X:keeps G.K (.ref 744)=true:=lh1 (lt1 (lt1 (lt5 (lt5 (lt5 (Hw hK))))))
theorem A6Y:keeps G.K (.ref 769)=true:=lh1 (lt1 (lt1 (lt1 (lt1 (lt5 (lt5 (lt5 (Hw hK))))))))
theorem A12:keeps G.K (.ref 776)=true:=lh1 (lt5 (lt5 (lt5 (lt5 (Hw hK)))))
theorem A6Z:keeps G.K (.ref 783)=true:=lh1 (lt1 (lt5 (lt5 (lt5 (lt5 (Hw hK))))))
theorem A60:keeps G.K (.ref 790)=true:=lh1 (lt1 (lt1 (lt5 (lt5 (lt5 (lt5 (Hw hK)))))))
theorem A61:keeps G.K (.ref 797)=true:=lh1 (lt1 (lt1 (lt1 (lt5 (lt5 (lt5 (lt5 (Hw hK))))))))
theorem A62:keeps G.K (.ref 802)=true:=lh1 (lt1 (lt1 (lt1 (lt1 (lt5 (lt5 (lt5 (lt5 (Hw hK)))))))))
theorem M4:[809,816,823,842,849,854,861,864,875,883,891,936,943,950,957,962,967].map (fun a:Nat=>keeps G.K (.ref a))=List.replicate 17 true:=by rw [hK];kernel_rfl
theorem A13:keeps G.K (.ref 809)=true:=lh1 (M4 hK)
theorem A63:keeps G.K (.ref 816)=true:=lh1 (lt1 (M4 hK))
theorem A64:keeps G.K (.ref 823)=true:=lh1 (lt1 (lt1 (M4 hK)))
theorem A65:keeps G.K (.ref 842)=true:=lh1 (lt1 (lt1 (lt1 (M4 hK))))
theorem A66:keeps G.K (.ref 849)=true:=lh1 (lt1 (lt1 (lt1 (lt1 (M4 hK)))))
theorem A14:keeps G.K (.ref 854)=true:=lh1 (lt5 (M4 hK))
theorem A67:keeps G.K (.ref 861)=true:=lh1 (lt1 (lt5 (M4 hK)))
theorem A15:keeps G.K (.ref 864)=true:=lh1 (lt1 (lt1 (lt5 (M4 hK))))
theorem A68:keeps G.K (.ref 883)=true:=lh1 (lt1 (lt1 (lt1 (lt1 (lt5 (M4 hK))))))
theorem A69:keeps G.K (.ref 891)=true:=lh1 (lt5 (lt5 (M4 hK)))
theorem A7a:keeps G.K (.ref 936)=true:=lh1 (lt1 (lt5 (lt5 (M4 hK))))
theorem A7b:keeps G.K (.ref 943)=true:=lh1 (lt1 (lt1 (lt5 (lt5 (M4 hK)))))
theorem A7c:keeps G.K (.ref 950)=true:=lh1 (lt1 (lt1 (lt1 (lt5 (lt5 (M4 hK))))))
theorem A7d:keeps G.K (.ref 957)=true:=lh1 (lt1 (lt1 (lt1 (lt1 (lt5 (lt5 (M4 hK)))))))
theorem A16:keeps G.K (.ref 962)=true:=lh1 (lt5 (lt5 (lt5 (M4 hK))))
theorem Vx:Dn (Pm G.hT []) (.int (2) 255) Ha:=by
  exact .int _ _
theorem A3M:Dn (Pm G.hT []) (.int (16) 273) TH:=by
  exact .int _ _
theorem Nv:Dn (Pm G.hT []) (.int (17) 275) FA:=by
  exact .int _ _
theorem Su:Dn (Pm G.hT []) (.ref 523) Ir:=by
  apply Dn.dict (by decide)
  repeat' first | exact .int _ _ | exact .str _ _ | exact .none | exact .nil | apply Dns.cons | apply Dn.tup | apply Dn.lst | apply Ox | exact oX hK rfl | rfl
theorem TP:Dn (Pm G.hT []) (.int (5) 261) FL:=by
  exact .int _ _
theorem A1f:Dn (Pm G.hT []) (.int (11) 263) M0:=by
  exact .int _ _
theorem Vy:Dn (Pm G.hT []) (.ref 61) JZ:=by
  apply Dn.dict (by decide)
  repeat' first | exact .int _ _ | exact .str _ _ | exact .none | exact .nil | apply Dns.cons | apply Dn.tup | apply Dn.lst | apply Ox | exact oX hK rfl | rfl
theorem Vz:Dn (Pm G.hT []) (.ref 58) K0:=by
  apply Dn.dict (by decide)
  repeat' first | exact .int _ _ | exact .str _ _ | exact .none | exact .nil | apply Dns.cons | apply Dn.tup | apply Dn.lst | apply Ox | exact oX hK rfl | rfl
theorem G3:Dn (Pm G.hT []) (.int (0) 211) BU:=by
  exact .int _ _
theorem ZB:Dn (Pm G.hT []) (.ref 744) Zx:=by
  exact .val _
theorem TQ:Dn (Pm G.hT []) (.ref 220) A3K:=by
  exact .val _
theorem RG:Dn (Pm G.hT []) (.ref 23) I6:=by
  apply Dn.dict (by decide)
  repeat' first | exact .int _ _ | exact .str _ _ | exact .none | exact .nil | apply Dns.cons | apply Dn.tup | apply Dn.lst | apply Ox | exact oX hK rfl | rfl
theorem A1g:Dn (Pm G.hT []) (.int (-1) 197) PN:=by
  exact .int _ _
theorem A4P:Dn (Pm G.hT []) (.int (4) 259) PO:=by
  exact .int _ _
theorem ZC:Dn (Pm G.hT []) (.ref 192) Zy:=by
  exact .val _
theorem RH:Dn (Pm G.hT []) (.ref 22) I7:=by
  apply Dn.dict (by decide)
  repeat' first | exact .int _ _ | exact .str _ _ | exact .none | exact .nil | apply Dns.cons | apply Dn.tup | apply Dn.lst | apply Ox | exact oX hK rfl | rfl
theorem K4:Dn (Pm G.hT []) (.ref 37) DU:=by
  apply Dn.dict (by decide)
  repeat' first | exact .int _ _ | exact .str _ _ | exact .none | exact .nil | apply Dns.cons | apply Dn.tup | apply Dn.lst | apply Ox | exact oX hK rfl | rfl
theorem YG:Dn (Pm G.hT []) (.int (3) 257) IL:=by
  exact .int _ _
theorem ZD:Dn (Pm G.hT []) (.int (2) 215) Nu:=by
  exact .int _ _
theorem PW:Dn (Pm G.hT []) (.str s!"(module" 1316) Hb:=by
  exact .str _ _
theorem ZE:Dn (Pm G.hT []) (.ref 443) Zz:=by
  exact .val _
theorem VA:Dn (Pm G.hT []) (.ref 511) K1:=by
  apply Dn.dict (by decide)
  repeat' first | exact .int _ _ | exact .str _ _ | exact .none | exact .nil | apply Dns.cons | apply Dn.tup | apply Dn.lst | apply Ox | exact oX hK rfl | rfl
theorem Xj:Dn (Pm G.hT []) (.ref 140) M1:=by
  repeat' first | exact .int _ _ | exact .str _ _ | exact .none | exact .nil | apply Dns.cons | apply Dn.tup | apply Dn.lst | apply Ox | exact oX hK rfl | rfl
theorem PX:Dn (Pm G.hT []) (.ref 864) Xe:=by
  exact .val _
theorem A3N:Dn (Pm G.hT []) (.ref 510) TJ:=by
  repeat' first | exact .int _ _ | exact .str _ _ | exact .none | exact .nil | apply Dns.cons | apply Dn.tup | apply Dn.lst | apply Ox | exact oX hK rfl | rfl
theorem TR:Dn (Pm G.hT []) (.str s!"  " 1312) Eb:=by
  exact .str _ _
theorem KQ:Dn (Pm G.hT []) (.ref 50) Ec:=by
  apply Dn.dict (by decide)
  repeat' first | exact .int _ _ | exact .str _ _ | exact .none | exact .nil | apply Dns.cons | apply Dn.tup | apply Dn.lst | apply Ox | exact oX hK rfl | rfl
theorem A1h:Dn (Pm G.hT []) (.int (1) 213) PP:=by
  exact .int _ _
theorem TU:Dn (Pm G.hT []) (.ref 622) A3L:=by
  exact .val _
theorem K5:Dn (Pm G.hT []) (.ref 962) PR:=by
  exact .val _
theorem RJ:Dn (Pm G.hT []) (.ref 943) RB:=by
  exact .val _
theorem VB:Dn (Pm G.hT []) (.ref 957) Vs:=by
  exact .val _
theorem RK:Dn (Pm G.hT []) (.ref 950) RC:=by
  exact .val _
theorem Fc:Dn (Pm G.hT []) (.ref 904) BR:=by
  repeat' first | exact .int _ _ | exact .str _ _ | exact .none | exact .nil | apply Dns.cons | apply Dn.tup | apply Dn.lst | apply Ox | exact oX hK rfl | rfl
theorem VC:Dn (Pm G.hT []) (.ref 936) Vt:=by
  exact .val _
theorem VD:Dn (Pm G.hT []) (.ref 929) K2:=by
  repeat' first | exact .int _ _ | exact .str _ _ | exact .none | exact .nil | apply Dns.cons | apply Dn.tup | apply Dn.lst | apply Ox | exact oX hK rfl | rfl
theorem TV:Dn (Pm G.hT []) (.ref 671) TK:=by
  exact .val _
theorem MC:Dn (Pm G.hT []) (.ref 678) TL:=by
  exact .val _
theorem PY:Dn (Pm G.hT []) (.ref 891) PQ:=by
  exact .val _
theorem Xk:Dn (Pm G.hT []) (.ref 154) Xf:=by
  exact .val _
theorem Sv:Dn (Pm G.hT []) (.ref 556) ZA:=by
  exact .val _
theorem Er:Dn (Pm G.hT []) (.ref 652) Lf:=by
  exact .val _
theorem TW:Dn (Pm G.hT []) (.ref 31) TM:=by
  exact .val _
theorem RI:Dn (Pm G.hT []) (.ref 36) Rz:=by
  exact .val _
theorem GO:Dn (Pm G.hT []) (.ref 563) TN:=by
  exact .val _
theorem PZ:Dn (Pm G.hT []) (.ref 640) PS:=by
  exact .val _
theorem Xl:Dn (Pm G.hT []) (.ref 522) Xg:=by
  exact .val _
theorem MD:Dn (Pm G.hT []) (.ref 551) TO:=by
  exact .val _
theorem Xm:Dn (Pm G.hT []) (.ref 168) Xh:=by
  exact .val _
theorem K6:Dn (Pm G.hT []) (.ref 147) PT:=by
  exact .val _
theorem EX:Dn (Pm G.hT []) (.ref 452) Vu:=by
  exact .val _
theorem K7:Dn (Pm G.hT []) (.ref 659) K3:=by
  exact .val _
theorem Ow:Dn (Pm G.hT []) (.ref 883) Ov:=by
  exact .val _
theorem VE:Dn (Pm G.hT []) (.ref 161) Vv:=by
  exact .val _
theorem Q0:Dn (Pm G.hT []) (.ref 544) PU:=by
  exact .val _
theorem LG:Dn (Pm G.hT []) (.ref 633) RD:=by
  exact .val _
theorem Xn:Dn (Pm G.hT []) (.ref 503) Xi:=by
  exact .val _
theorem Od:Dn (Pm G.hT []) (.ref 645) Vw:=by
  exact .val _
end
section
variable {G:Gl}{P:Params}(hK:G.K=kk.heap_1 P)
include hK
theorem Wl:AY G 1 (.ref 31) (AT 1 0 HS):=by
  apply AN [s!"kind"] [] (by decide);rw [hK];rfl;rfl;rfl;rfl;rw [hK];kernel_rfl;exact F3 fun ξ=>rfl;kernel_rfl;decide +kernel;decide +kernel;intro L' he;have hnd:([s!"kind"]++[]:List Str).Nodup:=by decide +kernel
  exact (Ab (AK (AP (Ax he (RQ hK) (RH hK) (by kernel_rfl)) (A7 (A9 (i:=0) he rfl) (A7 AG Ae)) (SV PySem.F.slot_dict_get PySem.F.type_dict_get A4F))) Ah)
theorem WG:Ao G 1 (.ref 31) JY:=Bj (Wl hK).v
theorem UA:AY G 2 (.ref 36) (AT 1 0 GT):=by
  apply AN [s!"kinds"] [] (by decide);rw [hK];rfl;rfl;rfl;rfl;rw [hK];kernel_rfl;exact F3 fun ξ=>rfl;kernel_rfl;decide +kernel;decide +kernel;intro L' he;have hnd:([s!"kinds"]++[]:List Str).Nodup:=by decide +kernel
  exact (Ab (AK (AP AG (A7 (BH (Dl (cl:=[]) he (CJ (A9 (i:=0) he rfl)) (fun ξ=>EP) (fun ξ=>(Ar (Ax (BK he rfl) (Ur hK) (TW hK) (by kernel_rfl)) (Ao.up (WG hK) (by decide)) (kf_31 hK) (A7 (A9 (i:=0) (BK he rfl) rfl) Ae))) It (by kernel_rfl) (by decide) rfl (by decide) (by kernel_rfl))) Ae) (EB PySem.F.slot_str_join PySem.F.type_str_join JI))) Ah)
theorem UR:Ao G 2 (.ref 36) IH:=Bj (UA hK).v
theorem S6:AY G 1 (.ref 147) (AT 1 4 FW):=by
  apply AN [s!"code"] [s!"least",s!"most",s!"params",s!"results"] (by decide);rw [hK];rfl;rfl;rfl;rfl;rw [hK];kernel_rfl;exact F3 fun ξ=>rfl;kernel_rfl;decide +kernel;decide +kernel;intro L' he;have hnd:([s!"code"]++[s!"least",s!"most",s!"params",s!"results"]:List Str).Nodup:=by decide +kernel
  exact (Ab (EO trivial (CJ (Ax he (XN hK) (Xj hK) (by kernel_rfl))) (Nc he hnd ⟨⟨_,_,rfl,rfl,(by kernel_rfl)⟩,⟨⟨_,_,rfl,rfl,(by kernel_rfl)⟩,⟨⟨_,_,rfl,rfl,(by kernel_rfl)⟩,⟨⟨_,_,rfl,rfl,(by kernel_rfl)⟩,trivial⟩⟩⟩⟩) (Ab (Bn (Ml (A9 (i:=1) he rfl) (A9 (i:=0) he rfl) (A9 (i:=2) he rfl)) (Ab (AK (AI (A7 (A9 (i:=3) he rfl) (A7 (A9 (i:=4) he rfl) Ae)))) Ah) Ah) Ah)) (Ab (AK CB) Ah))
theorem LK:Ao G 1 (.ref 147) FJ:=Bj (S6 hK).v
theorem A0h:AY G 2 (.ref 154) (AT 1 0 KY):=by
  apply AN [s!"code"] [] (by decide);rw [hK];rfl;rfl;rfl;rfl;rw [hK];kernel_rfl;exact F3 fun ξ=>rfl;kernel_rfl;decide +kernel;decide +kernel;intro L' he;have hnd:([s!"code"]++[]:List Str).Nodup:=by decide +kernel
  exact (Ab (Bn (AD (A9 (i:=0) he rfl) (Ax he (W3 hK) (Vz hK) (by kernel_rfl))) (Ab (AK (AC (Ax he (W3 hK) (Vz hK) (by kernel_rfl)) (A9 (i:=0) he rfl))) Ah) Ah) (Ab (Bn (FY (CK (AD (A9 (i:=0) he rfl) (Ax he (Ki hK) (K4 hK) (by kernel_rfl))) (CK (AD (A9 (i:=0) he rfl) (Ax he (KT hK) (KQ hK) (by kernel_rfl))) H0))) (Ab (AK AG) Ah) Ah) (Ab (AK (De (AD (Ar (Ax he (Kk hK) (K6 hK) (by kernel_rfl)) (Ao.up (LK hK) (by decide)) (A1T hK) (A7 (A9 (i:=0) he rfl) Ae)) CB) CB AG)) Ah)))
theorem A0x:Ao G 2 (.ref 154) Nn:=Bj (A0h hK).v
theorem Y1:AY G 2 (.ref 161) (AT 1 0 IZ):=by
  apply AN [s!"code"] [] (by decide);rw [hK];rfl;rfl;rfl;rfl;rw [hK];kernel_rfl;exact F3 fun ξ=>rfl;kernel_rfl;decide +kernel;decide +kernel;intro L' he;have hnd:([s!"code"]++[]:List Str).Nodup:=by decide +kernel
  exact (Ab (Bn (AD (A9 (i:=0) he rfl) (Ax he (W2 hK) (Vy hK) (by kernel_rfl))) (Ab (AK (AC (Ax he (W2 hK) (Vy hK) (by kernel_rfl)) (A9 (i:=0) he rfl))) Ah) Ah) (Ab (Bn (AD (A9 (i:=0) he rfl) (Ax he (Ki hK) (K4 hK) (by kernel_rfl))) (Ab (AK (AI (A7 (AI (A7 (Ax he (A2k hK) (A1g hK) (by kernel_rfl)) Ae)) (A7 (AI (A7 (AC (AC (Ax he (Ki hK) (K4 hK) (by kernel_rfl)) (A9 (i:=0) he rfl)) Aj) Ae)) Ae)))) Ah) Ah) (Ab (Bn (AD (A9 (i:=0) he rfl) (Ax he (KT hK) (KQ hK) (by kernel_rfl))) (Ab (AK (AI (A7 (AI (A7 (Ax he (A2k hK) (A1g hK) (by kernel_rfl)) (A7 (AC (AC (Ax he (KT hK) (KQ hK) (by kernel_rfl)) (A9 (i:=0) he rfl)) Aj) Ae))) (A7 (AI Ae) Ae)))) Ah) Ah) (Ab (AK (Ar (Ax he (Kk hK) (K6 hK) (by kernel_rfl)) (Ao.up (LK hK) (by decide)) (A1T hK) (A7 (A9 (i:=0) he rfl) Ae))) Ah))))
theorem Yb:Ao G 2 (.ref 161) LY:=Bj (Y1 hK).v
theorem A0j:AY G 1 (.ref 168) (AT 1 1 L0):=by
  apply AN [s!"code"] [s!"octets"] (by decide);rw [hK];rfl;rfl;rfl;rfl;rw [hK];kernel_rfl;exact F3 fun ξ=>rfl;kernel_rfl;decide +kernel;decide +kernel;intro L' he;have hnd:([s!"code"]++[s!"octets"]:List Str).Nodup:=by decide +kernel
  exact (Ab (B9 he rfl hnd (by kernel_rfl) (De (AD (A9 (i:=0) he rfl) (Ax he (Ki hK) (K4 hK) (by kernel_rfl))) (AC (AC (Ax he (Ki hK) (K4 hK) (by kernel_rfl)) (A9 (i:=0) he rfl)) Aj) (AC (AC (Ax he (KT hK) (KQ hK) (by kernel_rfl)) (A9 (i:=0) he rfl)) Aj))) (Ab (AK (WQ (A9 (i:=1) he rfl) rfl rfl (by decide) rfl rfl (by intro h;cases h) (by decide))) Ah))
theorem A0z:Ao G 1 (.ref 168) Np:=Bj (A0j hK).v
theorem Qv:AY G 1 (.ref 189) (AT 1 0 Fi):=by
  apply AN [s!"self"] [] (by decide);rw [hK];rfl;rfl;rfl;rfl;rw [hK];kernel_rfl;exact F3 fun ξ=>rfl;kernel_rfl;decide +kernel;decide +kernel;intro L' he;have hnd:([s!"self"]++[]:List Str).Nodup:=by decide +kernel
  exact (Ab (AK (AI (A7 (Aw (A9 (i:=0) he rfl) (Ja hK)) (A7 (Aw (A9 (i:=0) he rfl) (JN hK)) (A7 (Aw (A9 (i:=0) he rfl) (Dh hK)) (A7 (Aw (A9 (i:=0) he rfl) (Gi hK)) Ae)))))) Ah)
theorem QP:Ao G 1 (.ref 189) H6:=Bj (Qv hK).v
theorem Uy:AY G 1 (.ref 217) (AT 1 0 GR):=by
  apply AN [s!"self"] [] (by decide);rw [hK];rfl;rfl;rfl;rfl;rw [hK];kernel_rfl;exact F3 fun ξ=>rfl;kernel_rfl;decide +kernel;decide +kernel;intro L' he;have hnd:([s!"self"]++[]:List Str).Nodup:=by decide +kernel
  exact (Ab (AK (AI (A7 (Aw (A9 (i:=0) he rfl) (F6 hK)) (A7 (Ar (AQ he (G6 hK) (G1) (by kernel_rfl)) HA rfl (A7 (Aw (A9 (i:=0) he rfl) (H3 hK)) Ae)) (A7 (Ar (AQ he (G6 hK) (G1) (by kernel_rfl)) HA rfl (A7 (Aw (A9 (i:=0) he rfl) (IE hK)) Ae)) Ae))))) Ah)
theorem UP:Ao G 1 (.ref 217) IF:=Bj (Uy hK).v
theorem Y0:AY G 2 (.ref 452) (AT 1 0 IY):=by
  apply AN [s!"things"] [] (by decide);rw [hK];rfl;rfl;rfl;rfl;rw [hK];kernel_rfl;exact F3 fun ξ=>rfl;kernel_rfl;decide +kernel;decide +kernel;intro L' he;have hnd:([s!"things"]++[]:List Str).Nodup:=by decide +kernel
  exact (Ab (AK (Ar (AQ he (G6 hK) (G1) (by kernel_rfl)) HA rfl (A7 (BH (Dl (cl:=[]) he (CJ (A9 (i:=0) he rfl)) (fun ξ=>EP) (fun ξ=>(AP (A9 (i:=0) (BK he rfl) rfl) Ae (Ba (AL.cons (OC hK) (A6H hK) (Ao.up (QP hK) (by decide)) (AL.cons (RN hK) (A6J hK) (Ao.up (UP hK) (by decide)) AL.nil))))) It (by kernel_rfl) (by decide) rfl (by decide) (by kernel_rfl))) Ae))) Ah)
theorem FD:Ao G 2 (.ref 452) DS:=Bj (Y0 hK).v
theorem A0k:RV G 1 (.ref 503) (AT 1 3 L1):=by
  apply Mm [s!"text"] [s!"found",s!"sign",s!"point"] (by decide);rw [hK];rfl;rfl;rfl;rfl;rw [hK];kernel_rfl;exact F3 fun ξ=>rfl;kernel_rfl;decide +kernel;decide +kernel;intro L' he;have hnd:([s!"text"]++[s!"found",s!"sign",s!"point"]:List Str).Nodup:=by decide +kernel
  exact (Bu (A0H he rfl hnd (by kernel_rfl) (F4 (AQ he (Ug hK) (Tt) (by kernel_rfl)) V_ba rfl EN)) (Bu (A0G trivial (CJ (A9 (i:=0) he rfl)) (EH he rfl hnd (by kernel_rfl)) (Bu (Be (B9 he rfl hnd (by kernel_rfl) (Ar (AQ he (A7o hK) (A52) (by kernel_rfl)) V_ord rfl (A7 (A9 (i:=2) he rfl) Ae)))) (Bu (Be (Bn (Ml Aj (A9 (i:=3) he rfl) Aj) (Ab Cw Ah) Ah)) (Bu (A4C (BI (AD (A9 (i:=3) he rfl) Aj)) (Bu (Yp (P8 (BI (A9 (i:=1) he rfl)) (Ds (BI (A9 (i:=3) he rfl)) EN) A3C)) (Be Ah)) (Be (Ab (Bn (AD (A9 (i:=3) he rfl) Aj) (Ab Cw Ah) (Ab (Bn (AD (A9 (i:=3) he rfl) Aj) (Ab Cw Ah) (Ab Cw Ah)) Ah)) Ah))) (Be Ah))))) (Be (Ab (AK (Ar (AQ he (A2f hK) (A09) (by kernel_rfl)) A3r rfl (A7 (A9 (i:=1) he rfl) Ae))) Ah))))
theorem A0A:RV G 1 (.ref 503) Nq:=KO (A0k hK)
theorem A0i:AY G 1 (.ref 522) (AT 1 3 KZ):=by
  apply AN [s!"code"] [s!"first",s!"prefix",s!"words"] (by decide);rw [hK];rfl;rfl;rfl;rfl;rw [hK];kernel_rfl;exact F3 fun ξ=>rfl;kernel_rfl;decide +kernel;decide +kernel;intro L' he;have hnd:([s!"code"]++[s!"first",s!"prefix",s!"words"]:List Str).Nodup:=by decide +kernel
  exact (Ab (Bn (AD (A9 (i:=0) he rfl) (Ax he (W4 hK) (VA hK) (by kernel_rfl))) (Ab (AK (AC (Ax he (W4 hK) (VA hK) (by kernel_rfl)) (A9 (i:=0) he rfl))) Ah) Ah) (Ab (EO trivial (CJ (Ax he (A4g hK) (A3N hK) (by kernel_rfl))) (Nc he hnd ⟨⟨_,_,rfl,rfl,(by kernel_rfl)⟩,⟨⟨_,_,rfl,rfl,(by kernel_rfl)⟩,⟨⟨_,_,rfl,rfl,(by kernel_rfl)⟩,trivial⟩⟩⟩) (Ab (Bn (Ml (A9 (i:=1) he rfl) (A9 (i:=0) he rfl) (Ak (A9 (i:=1) he rfl) (Ar (AQ he (BO hK) (BM) (by kernel_rfl)) Cr rfl (A7 (A9 (i:=3) he rfl) Ae)) AR)) (Ab (AK (Ak (A9 (i:=2) he rfl) (AC (A9 (i:=3) he rfl) (Ak (A9 (i:=0) he rfl) (A9 (i:=1) he rfl) Pb)) AR)) Ah) Ah) Ah)) (Ab (AK CB) Ah)))
theorem A0y:Ao G 1 (.ref 522) No:=Bj (A0i hK).v
theorem S7:AY G 1 (.ref 544) (AT 1 2 FX):=by
  apply AN [s!"octets"] [s!"found",s!"octet"] (by decide);rw [hK];rfl;rfl;rfl;rfl;rw [hK];kernel_rfl;exact F3 fun ξ=>rfl;kernel_rfl;decide +kernel;decide +kernel;intro L' he;have hnd:([s!"octets"]++[s!"found",s!"octet"]:List Str).Nodup:=by decide +kernel
  exact (Ab (B9 he rfl hnd (by kernel_rfl) (Cb Ae)) (Ab (EO trivial (CJ (A9 (i:=0) he rfl)) (EH he rfl hnd (by kernel_rfl)) (Ab (Bn (FY (IB (Ml Aj (A9 (i:=2) he rfl) Aj) (IB (AD (A9 (i:=2) he rfl) (AI (A7 Aj (A7 Aj Ae)))) Se))) (Ab (BQ (AP (A9 (i:=1) he rfl) (A7 (Ar (AQ he (A7k hK) (A5Y) (by kernel_rfl)) V_chr rfl (A7 (A9 (i:=2) he rfl) Ae)) Ae) (Bs PySem.F.slot_list_append PySem.F.type_list_append JH))) Ah) (Ab Cw Ah)) Ah)) (Ab (AK (Ak (Ak AG (AP AG (A7 (A9 (i:=1) he rfl) Ae) (EB PySem.F.slot_str_join PySem.F.type_str_join JI)) AR) AG AR)) Ah)))
theorem Sc:Ao G 1 (.ref 544) I5:=Bj (S7 hK).v
theorem Wn:RV G 2 (.ref 551) (AT 1 0 HU):=by
  apply Mm [s!"name"] [] (by decide);rw [hK];rfl;rfl;rfl;rfl;rw [hK];kernel_rfl;exact F3 fun ξ=>rfl;kernel_rfl;decide +kernel;decide +kernel;intro L' he;have hnd:([s!"name"]++[]:List Str).Nodup:=by decide +kernel
  exact (Bu (WO (F4 (Ax he (Qo hK) (Q0 hK) (by kernel_rfl)) (Ao.r (Ao.up (Sc hK) (by decide))) (A6P hK) (Ds (F4 (Ax he (XU hK) (Xn hK) (by kernel_rfl)) (RV.up (A0A hK) (by decide)) (A6N hK) (Ds (BI (A9 (i:=0) he rfl)) EN)) EN))) (Be Ah))
theorem Ol:RV G 2 (.ref 551) HH:=KO (Wn hK)
theorem A2x:AY G 1 (.ref 556) (AT 2 4 N5):=by
  apply AN [s!"told",s!"many"] [s!"found",s!"index",s!"name",s!"is_right"] (by decide);rw [hK];rfl;rfl;rfl;rfl;rw [hK];kernel_rfl;exact Jr fun ξ ξ=>rfl;kernel_rfl;decide +kernel;decide +kernel;intro L' he;have hnd:([s!"told",s!"many"]++[s!"found",s!"index",s!"name",s!"is_right"]:List Str).Nodup:=by decide +kernel
  exact (Ab (B9 he rfl hnd (by kernel_rfl) (Cb Ae)) (Ab (EO trivial (Nd (AQ he (Qj hK) (PA) (by kernel_rfl)) (A9 (i:=1) he rfl)) (EH he rfl hnd (by kernel_rfl)) (Ab (B9 he rfl hnd (by kernel_rfl) (AP (A9 (i:=0) he rfl) (A7 (A9 (i:=3) he rfl) (A7 AG Ae)) (SV PySem.F.slot_dict_get PySem.F.type_dict_get A4F))) (Ab (B9 he rfl hnd (by kernel_rfl) (UW (JD (KL (A9 (i:=4) he rfl) AG) (JD LA (O2 LA))))) (Ab (BQ (AP (A9 (i:=2) he rfl) (A7 (De (Yr (A9 (i:=5) he rfl)) LA AG) Ae) (Bs PySem.F.slot_list_append PySem.F.type_list_append JH))) Ah)))) (Ab (AK (BH (A9 (i:=2) he rfl))) Ah)))
theorem WF:Ao G 1 (.ref 556) My:=Bj (A2x hK).v
theorem Wm:AY G 3 (.ref 563) (AT 2 0 HT):=by
  apply AN [s!"word",s!"kinds"] [] (by decide);rw [hK];rfl;rfl;rfl;rfl;rw [hK];kernel_rfl;exact Jr fun ξ ξ=>rfl;kernel_rfl;decide +kernel;decide +kernel;intro L' he;have hnd:([s!"word",s!"kinds"]++[]:List Str).Nodup:=by decide +kernel
  exact (Ab (AK (De (AD (Ar (AQ he (BO hK) (BM) (by kernel_rfl)) Cr rfl (A7 (A9 (i:=1) he rfl) Ae)) Aj) AG (Ak (Ak (Ak (Ak AG (A9 (i:=0) he rfl) AR) AG AR) (Ar (Ax he (RR hK) (RI hK) (by kernel_rfl)) (Ao.up (UR hK) (by decide)) (kf_36 hK) (A7 (A9 (i:=1) he rfl) Ae)) AR) AG AR))) Ah)
theorem HX:Ao G 3 (.ref 563) EW:=Bj (Wm hK).v
theorem UD:AY G 1 (.ref 633) (AT 2 0 GW):=by
  apply AN [s!"ids",s!"index"] [] (by decide);rw [hK];rfl;rfl;rfl;rfl;rw [hK];kernel_rfl;exact Jr fun ξ ξ=>rfl;kernel_rfl;decide +kernel;decide +kernel;intro L' he;have hnd:([s!"ids",s!"index"]++[]:List Str).Nodup:=by decide +kernel
  exact (Ab (Bn (FY (IB (AD (A9 (i:=1) he rfl) (Ar (AQ he (BO hK) (BM) (by kernel_rfl)) Cr rfl (A7 (A9 (i:=0) he rfl) Ae))) (IB (AD (AC (A9 (i:=0) he rfl) (A9 (i:=1) he rfl)) AG) Se))) (Ab (AK (AC (A9 (i:=0) he rfl) (A9 (i:=1) he rfl))) Ah) Ah) (Ab (AK (Ar (AQ he (Kf hK) (JU) (by kernel_rfl)) O5 rfl (A7 (A9 (i:=1) he rfl) Ae))) Ah))
theorem N6:Ao G 1 (.ref 633) GM:=Bj (UD hK).v
theorem S5:AY G 2 (.ref 640) (AT 3 1 FV):=by
  apply AN [s!"code",s!"align",s!"offset"] [s!"found"] (by decide);rw [hK];rfl;rfl;rfl;rfl;rw [hK];kernel_rfl;exact ZV fun ξ ξ ξ=>rfl;kernel_rfl;decide +kernel;decide +kernel;intro L' he;have hnd:([s!"code",s!"align",s!"offset"]++[s!"found"]:List Str).Nodup:=by decide +kernel
  exact (Ab (B9 he rfl hnd (by kernel_rfl) AG) (Ab (Bn (AD (A9 (i:=2) he rfl) Aj) (Ab (B9 he rfl hnd (by kernel_rfl) (Ak AG (Ar (AQ he (Kf hK) (JU) (by kernel_rfl)) O5 rfl (A7 (A9 (i:=2) he rfl) Ae)) AR)) Ah) Ah) (Ab (Bn (AD (A9 (i:=1) he rfl) (Ar (Ax he (XR hK) (Xm hK) (by kernel_rfl)) (Ao.up (A0z hK) (by decide)) (A6G hK) (A7 (A9 (i:=0) he rfl) Ae))) (Ab (B9 he rfl hnd (by kernel_rfl) (Ak (Ak (A9 (i:=3) he rfl) AG AR) (Ar (AQ he (Kf hK) (JU) (by kernel_rfl)) O5 rfl (A7 (Ak Aj (A9 (i:=1) he rfl) O_pow) Ae)) AR)) Ah) Ah) (Ab (AK (A9 (i:=3) he rfl)) Ah))))
theorem Sb:Ao G 2 (.ref 640) I4:=Bj (S5 hK).v
theorem Y2:AY G 1 (.ref 645) (AT 1 0 J0):=by
  apply AN [s!"numbers"] [] (by decide);rw [hK];rfl;rfl;rfl;rfl;rw [hK];kernel_rfl;exact F3 fun ξ=>rfl;kernel_rfl;decide +kernel;decide +kernel;intro L' he;have hnd:([s!"numbers"]++[]:List Str).Nodup:=by decide +kernel
  exact (Ab (AK (AP AG (A7 (BH (Dl (cl:=[]) he (CJ (A9 (i:=0) he rfl)) (fun ξ=>EP) (fun ξ=>(Ak AG (Ar (AQ (BK he rfl) (Kf hK) (JU) (by kernel_rfl)) O5 rfl (A7 (A9 (i:=0) (BK he rfl) rfl) Ae)) AR)) It (by kernel_rfl) (by decide) rfl (by decide) (by kernel_rfl))) Ae) (EB PySem.F.slot_str_join PySem.F.type_str_join JI))) Ah)
theorem QS:Ao G 1 (.ref 645) IK:=Bj (Y2 hK).v
theorem Wg:AY G 2 (.ref 612) (AT 2 0 HO):=by
  apply AN [s!"self",s!"index"] [] (by decide);rw [hK];rfl;rfl;rfl;rfl;rw [hK];kernel_rfl;exact Jr fun ξ ξ=>rfl;kernel_rfl;decide +kernel;decide +kernel;intro L' he;have hnd:([s!"self",s!"index"]++[]:List Str).Nodup:=by decide +kernel
  exact (Ab (AK (Ar (Ax he (LH hK) (LG hK) (by kernel_rfl)) (Ao.up (N6 hK) (by decide)) (A1Z hK) (A7 (Aw (A9 (i:=0) he rfl) (Nk hK)) (A7 (A9 (i:=1) he rfl) Ae)))) Ah)
theorem WD:Ao G 2 (.ref 612) JW:=Bj (Wg hK).v
theorem Uz:AY G 2 (.ref 619) (AT 2 0 GS):=by
  apply AN [s!"self",s!"index"] [] (by decide);rw [hK];rfl;rfl;rfl;rfl;rw [hK];kernel_rfl;exact Jr fun ξ ξ=>rfl;kernel_rfl;decide +kernel;decide +kernel;intro L' he;have hnd:([s!"self",s!"index"]++[]:List Str).Nodup:=by decide +kernel
  exact (Ab (AK (Ar (Ax he (LH hK) (LG hK) (by kernel_rfl)) (Ao.up (N6 hK) (by decide)) (A1Z hK) (A7 (Aw (A9 (i:=0) he rfl) (Mu hK)) (A7 (A9 (i:=1) he rfl) Ae)))) Ah)
theorem UQ:Ao G 2 (.ref 619) IG:=Bj (Uz hK).v
theorem Ma:AY G 4 (.ref 652) (AT 2 4 Dr):=by
  apply AN [s!"told",s!"instruction"] [s!"code",s!"rest",s!"name",s!"form"] (by decide);rw [hK];rfl;rfl;rfl;rfl;rw [hK];kernel_rfl;exact Jr fun ξ ξ=>rfl;kernel_rfl;decide +kernel;decide +kernel;intro L' he;have hnd:([s!"told",s!"instruction"]++[s!"code",s!"rest",s!"name",s!"form"]:List Str).Nodup:=by decide +kernel
  exact (Ab (Hz (is:=[2,3]) (names:=[s!"code",s!"rest"]) he hnd ⟨⟨rfl,.inl (by kernel_rfl)⟩,⟨⟨rfl,.inl (by kernel_rfl)⟩,trivial⟩⟩ rfl (A7 (AC (A9 (i:=1) he rfl) Aj) (A7 (Hy true (A9 (i:=1) he rfl) (GD Aj) J9) Ae))) (Ab (Hz (is:=[4,5]) (names:=[s!"name",s!"form"]) he hnd ⟨⟨rfl,.inl (by kernel_rfl)⟩,⟨⟨rfl,.inl (by kernel_rfl)⟩,trivial⟩⟩ rfl (A7 (Ar (Ax he (XQ hK) (Xl hK) (by kernel_rfl)) (Ao.up (A0y hK) (by decide)) (A6O hK) (A7 (A9 (i:=2) he rfl) Ae)) (A7 (Ar (Ax he (XO hK) (Xk hK) (by kernel_rfl)) (Ao.up (A0x hK) (by decide)) (A6E hK) (A7 (A9 (i:=2) he rfl) Ae)) Ae))) (Ab (Bn (AD (A9 (i:=5) he rfl) AG) (Ab Cw Ah) Ah) (Ab (Bn (AD (A9 (i:=5) he rfl) AG) (Ab (AK (Ak (Ak (A9 (i:=4) he rfl) AG AR) (AP (A9 (i:=0) he rfl) (A7 (AC (A9 (i:=3) he rfl) Aj) Ae) (Ba (AL.cons (Ue hK) (A6Q hK) (Ao.up (WD hK) (by decide)) AL.nil))) AR)) Ah) Ah) (Ab (Bn (AD (A9 (i:=5) he rfl) AG) (Ab (AK (Ak (Ak (A9 (i:=4) he rfl) AG AR) (AP (A9 (i:=0) he rfl) (A7 (AC (A9 (i:=3) he rfl) Aj) Ae) (Ba (AL.cons (RO hK) (A6R hK) (Ao.up (UQ hK) (by decide)) AL.nil))) AR)) Ah) Ah) (Ab (Bn (AD (A9 (i:=5) he rfl) AG) (Ab (AK (Ak (Ak (Ak (Ak (Ak (A9 (i:=4) he rfl) AG AR) (Ar (AQ he (Kf hK) (JU) (by kernel_rfl)) O5 rfl (A7 (AC (A9 (i:=3) he rfl) Aj) Ae)) AR) AG AR) (Ar (AQ he (Kf hK) (JU) (by kernel_rfl)) O5 rfl (A7 (AC (A9 (i:=3) he rfl) Aj) Ae)) AR) AG AR)) Ah) Ah) (Ab (Bn (AD (A9 (i:=5) he rfl) AG) (Ab (AK (Ak (A9 (i:=4) he rfl) (Ar (Ax he (Qn hK) (PZ hK) (by kernel_rfl)) (Ao.up (Sb hK) (by decide)) (A6S hK) (A7 (A9 (i:=2) he rfl) (A7 (AC (A9 (i:=3) he rfl) Aj) (A7 (AC (A9 (i:=3) he rfl) Aj) Ae)))) AR)) Ah) Ah) (Ab (Bn (AD (A9 (i:=5) he rfl) AG) (Ab (AK (Ak (Ak (A9 (i:=4) he rfl) AG AR) (AC (Ax he (RP hK) (RG hK) (by kernel_rfl)) (AC (A9 (i:=3) he rfl) Aj)) AR)) Ah) Ah) (Ab (Bn (AD (A9 (i:=5) he rfl) AG) (Ab (AK (Ak (A9 (i:=4) he rfl) (De (AD (Ar (AQ he (BO hK) (BM) (by kernel_rfl)) Cr rfl (A7 (A9 (i:=3) he rfl) Ae)) Aj) AG (Ar (Ax he (GP hK) (GO hK) (by kernel_rfl)) (Ao.up (HX hK) (by decide)) (U9 hK) (A7 AG (A7 (A9 (i:=3) he rfl) Ae)))) AR)) Ah) Ah) (Ab (Bn (AD (A9 (i:=5) he rfl) AG) (Ab (AK (Ak (A9 (i:=4) he rfl) (Ar (Ax he (Oh hK) (Od hK) (by kernel_rfl)) (Ao.up (QS hK) (by decide)) (A10 hK) (A7 (AX (A7 (AC (A9 (i:=3) he rfl) Aj) (A7 (AC (A9 (i:=3) he rfl) Aj) Ae))) Ae)) AR)) Ah) Ah) (Ab (AK (Ak (A9 (i:=4) he rfl) (Ar (Ax he (Oh hK) (Od hK) (by kernel_rfl)) (Ao.up (QS hK) (by decide)) (A10 hK) (A7 (A9 (i:=3) he rfl) Ae)) AR)) Ah)))))))))))
theorem ET:Ao G 4 (.ref 652) Cy:=Bj (Ma hK).v
theorem Wi:AY G 1 (.ref 605) (AT 3 0 HP):=by
  apply AN [s!"self",s!"func_ids",s!"local_ids"] [] (by decide);rw [hK];rfl;rfl;rfl;rfl;rw [hK];kernel_rfl;exact ZV fun ξ ξ ξ=>rfl;kernel_rfl;decide +kernel;decide +kernel;intro L' he;have hnd:([s!"self",s!"func_ids",s!"local_ids"]++[]:List Str).Nodup:=by decide +kernel
  exact (Ab (Bg (A9 (i:=1) he rfl) (A9 (i:=0) he rfl) (NS hK)) (Ab (Bg (A9 (i:=2) he rfl) (A9 (i:=0) he rfl) (N3 hK)) Ah))
theorem Y7:Ao G 2 (.ref 622) PG:=Sl (by decide) (by rw [hK];kernel_rfl) (by rw [hK];kernel_rfl) (by rw [hK];kernel_rfl) (Wi hK)
theorem Lp:AY G 5 (.ref 659) (AT 2 0 Dc):=by
  apply AN [s!"module",s!"instruction"] [] (by decide);rw [hK];rfl;rfl;rfl;rfl;rw [hK];kernel_rfl;exact Jr fun ξ ξ=>rfl;kernel_rfl;decide +kernel;decide +kernel;intro L' he;have hnd:([s!"module",s!"instruction"]++[]:List Str).Nodup:=by decide +kernel
  exact (Ab (AK (Ar (Ax he (Es hK) (Er hK) (by kernel_rfl)) (Ao.up (ET hK) (by decide)) (XF hK) (A7 (BH (Ar (Ax he (Up hK) (TU hK) (by kernel_rfl)) (Ao.up (Y7 hK) (by decide)) (XD hK) (A7 (AX Ae) (A7 (AX Ae) Ae)))) (A7 (A9 (i:=1) he rfl) Ae)))) Ah)
theorem Ly:Ao G 5 (.ref 659) Ep:=Bj (Lp hK).v
theorem Wj:AY G 5 (.ref 671) (AT 3 3 HQ):=by
  apply AN [s!"told",s!"body",s!"depth"] [s!"found",s!"instruction",s!"code"] (by decide);rw [hK];rfl;rfl;rfl;rfl;rw [hK];kernel_rfl;exact ZV fun ξ ξ ξ=>rfl;kernel_rfl;decide +kernel;decide +kernel;intro L' he;have hnd:([s!"told",s!"body",s!"depth"]++[s!"found",s!"instruction",s!"code"]:List Str).Nodup:=by decide +kernel
  exact (Ab (B9 he rfl hnd (by kernel_rfl) (Cb Ae)) (Ab (EO trivial (CJ (Hy true (A9 (i:=1) he rfl) J9 (GD (Gh Aj)))) (EH he rfl hnd (by kernel_rfl)) (Ab (B9 he rfl hnd (by kernel_rfl) (AC (A9 (i:=4) he rfl) Aj)) (Ab (Bn (AD (A9 (i:=5) he rfl) (AI (A7 (Ax he (Um hK) (TP hK) (by kernel_rfl)) (A7 (Ax he (A2j hK) (A1f hK) (by kernel_rfl)) Ae)))) (Ab Cw Ah) Ah) (Ab (BQ (AP (A9 (i:=3) he rfl) (A7 (Ak (Ak (Ax he (Uo hK) (TR hK) (by kernel_rfl)) (A9 (i:=2) he rfl) Ys) (Ar (Ax he (Es hK) (Er hK) (by kernel_rfl)) (Ao.up (ET hK) (by decide)) (XF hK) (A7 (A9 (i:=0) he rfl) (A7 (A9 (i:=4) he rfl) Ae))) AR) Ae) (Bs PySem.F.slot_list_append PySem.F.type_list_append JH))) (Ab (Bn (AD (A9 (i:=5) he rfl) (AI (A7 (Ax he (W1 hK) (Vx hK) (by kernel_rfl)) (A7 (Ax he (YT hK) (YG hK) (by kernel_rfl)) (A7 (Ax he (A40 hK) (A4P hK) (by kernel_rfl)) (A7 (Ax he (Um hK) (TP hK) (by kernel_rfl)) Ae)))))) (Ab Cw Ah) Ah) Ah))))) (Ab (AK (BH (A9 (i:=3) he rfl))) Ah)))
theorem WE:Ao G 5 (.ref 671) JX:=Bj (Wj hK).v
theorem OG:AY G 1 (.ref 360) (AT 2 0 EM):=by
  apply AN [s!"self",s!"sort"] [] (by decide);rw [hK];rfl;rfl;rfl;rfl;rw [hK];kernel_rfl;exact Jr fun ξ ξ=>rfl;kernel_rfl;decide +kernel;decide +kernel;intro L' he;have hnd:([s!"self",s!"sort"]++[]:List Str).Nodup:=by decide +kernel
  exact (Ab (AK (BH (Dl (cl:=[(s!"sort",L' + 1)]) he (CJ (Aw (A9 (i:=0) he rfl) (F8 hK))) (fun ξ=>(A0I (AD (Aw (A9 (i:=0) (BK he rfl) rfl) (Dh hK)) (A9 (i:=1) (BK he rfl) rfl)))) (fun ξ=>(Aw (A9 (i:=0) (BK he rfl) rfl) (Gi hK))) (YK (i:=1) rfl (by kernel_rfl) (by kernel_rfl) rfl) (by kernel_rfl) (by decide) rfl (by decide) (by kernel_rfl)))) Ah)
theorem Jj:Ao G 1 (.ref 360) EK:=Bj (OG hK).v
theorem Li:AY G 2 (.ref 365) (AT 1 0 D7):=by
  apply AN [s!"self"] [] (by decide);rw [hK];rfl;rfl;rfl;rfl;rw [hK];kernel_rfl;exact F3 fun ξ=>rfl;kernel_rfl;decide +kernel;decide +kernel;intro L' he;have hnd:([s!"self"]++[]:List Str).Nodup:=by decide +kernel
  exact (Ab (AK (BH (Ak (AP (A9 (i:=0) he rfl) (A7 (Ax he (G7 hK) (G3 hK) (by kernel_rfl)) Ae) (Ba (AL.cons (Iu hK) (A1V hK) (Ao.up (Jj hK) (by decide)) AL.nil))) (BH (Dl (cl:=[]) he (CJ (Aw (A9 (i:=0) he rfl) (EJ hK))) (fun ξ=>EP) (fun ξ=>(Aw (A9 (i:=0) (BK he rfl) rfl) (F6 hK))) It (by kernel_rfl) (by decide) rfl (by decide) (by kernel_rfl))) AR))) Ah)
theorem Ls:Ao G 2 (.ref 365) Ek:=Bj (Li hK).v
theorem Wk:AY G 3 (.ref 678) (AT 2 4 HR):=by
  apply AN [s!"module",s!"instruction"] [s!"code",s!"kinds",s!"kind",s!"effect"] (by decide);rw [hK];rfl;rfl;rfl;rfl;rw [hK];kernel_rfl;exact Jr fun ξ ξ=>rfl;kernel_rfl;decide +kernel;decide +kernel;intro L' he;have hnd:([s!"module",s!"instruction"]++[s!"code",s!"kinds",s!"kind",s!"effect"]:List Str).Nodup:=by decide +kernel
  exact (Ab (B9 he rfl hnd (by kernel_rfl) (AC (A9 (i:=1) he rfl) Aj)) (Ab (Bn (AD (A9 (i:=2) he rfl) (Ax he (SJ hK) (Su hK) (by kernel_rfl))) (Ab (AK (AC (Ax he (SJ hK) (Su hK) (by kernel_rfl)) (A9 (i:=2) he rfl))) Ah) Ah) (Ab (Bn (AD (A9 (i:=2) he rfl) (Ax he (A4f hK) (A3M hK) (by kernel_rfl))) (Ab (B9 he rfl hnd (by kernel_rfl) (AP (A9 (i:=0) he rfl) Ae (Ba (AL.cons (Ka hK) (A6K hK) (Ao.up (Ls hK) (by decide)) AL.nil)))) (Ab (Bn (FY (CK (AD (AC (A9 (i:=1) he rfl) Aj) (Ar (AQ he (BO hK) (BM) (by kernel_rfl)) Cr rfl (A7 (A9 (i:=3) he rfl) Ae))) (CK (AD (AC (A9 (i:=3) he rfl) (AC (A9 (i:=1) he rfl) Aj)) (Ar (AQ he (BO hK) (BM) (by kernel_rfl)) Cr rfl (A7 (Aw (A9 (i:=0) he rfl) (C6 hK)) Ae))) H0))) (Ab (AK CB) Ah) Ah) (Ab (B9 he rfl hnd (by kernel_rfl) (AC (Aw (A9 (i:=0) he rfl) (C6 hK)) (AC (A9 (i:=3) he rfl) (AC (A9 (i:=1) he rfl) Aj)))) (Ab (AK (AI (A7 (Ar (AQ he (BO hK) (BM) (by kernel_rfl)) Cr rfl (A7 (AC (A9 (i:=4) he rfl) Aj) Ae)) (A7 (Ar (AQ he (BO hK) (BM) (by kernel_rfl)) Cr rfl (A7 (AC (A9 (i:=4) he rfl) Aj) Ae)) Ae)))) Ah)))) Ah) (Ab (Bn (AD (A9 (i:=2) he rfl) (Ax he (NK hK) (Nv hK) (by kernel_rfl))) (Ab (Bn (AD (AC (A9 (i:=1) he rfl) Aj) (Ar (AQ he (BO hK) (BM) (by kernel_rfl)) Cr rfl (A7 (Aw (A9 (i:=0) he rfl) (C6 hK)) Ae))) (Ab (AK CB) Ah) Ah) (Ab (B9 he rfl hnd (by kernel_rfl) (AC (Aw (A9 (i:=0) he rfl) (C6 hK)) (AC (A9 (i:=1) he rfl) Aj))) (Ab (AK (AI (A7 (Ak (Ar (AQ he (BO hK) (BM) (by kernel_rfl)) Cr rfl (A7 (AC (A9 (i:=4) he rfl) Aj) Ae)) Aj AR) (A7 (Ar (AQ he (BO hK) (BM) (by kernel_rfl)) Cr rfl (A7 (AC (A9 (i:=4) he rfl) Aj) Ae)) Ae)))) Ah))) Ah) (Ab (B9 he rfl hnd (by kernel_rfl) (Ar (Ax he (W8 hK) (VE hK) (by kernel_rfl)) (Ao.up (Yb hK) (by decide)) (A6F hK) (A7 (A9 (i:=2) he rfl) Ae))) (Ab (AK (De (AD (A9 (i:=5) he rfl) CB) CB (AI (A7 (Ar (AQ he (BO hK) (BM) (by kernel_rfl)) Cr rfl (A7 (AC (A9 (i:=5) he rfl) Aj) Ae)) (A7 (Ar (AQ he (BO hK) (BM) (by kernel_rfl)) Cr rfl (A7 (AC (A9 (i:=5) he rfl) Aj) Ae)) Ae))))) Ah))))))
theorem Ok:Ao G 3 (.ref 678) HG:=Bj (Wk hK).v
theorem Lm:AY G 4 (.ref 769) (AT 1 3 Da):=by
  apply AN [s!"self"] [s!"found",s!"params",s!"results"] (by decide);rw [hK];rfl;rfl;rfl;rfl;rw [hK];kernel_rfl;exact F3 fun ξ=>rfl;kernel_rfl;decide +kernel;decide +kernel;intro L' he;have hnd:([s!"self"]++[s!"found",s!"params",s!"results"]:List Str).Nodup:=by decide +kernel
  exact (Ab (B9 he rfl hnd (by kernel_rfl) (Cb Ae)) (Ab (EO trivial (CJ (Aw (Aw (A9 (i:=0) he rfl) (B0 hK)) (C6 hK))) (Nc he hnd ⟨⟨_,_,rfl,rfl,(by kernel_rfl)⟩,⟨⟨_,_,rfl,rfl,(by kernel_rfl)⟩,trivial⟩⟩) (Ab (BQ (AP (A9 (i:=1) he rfl) (A7 (Ak (Ak (Ak AG (Ar (Ax he (GP hK) (GO hK) (by kernel_rfl)) (Ao.up (HX hK) (by decide)) (U9 hK) (A7 AG (A7 (A9 (i:=2) he rfl) Ae))) AR) (Ar (Ax he (GP hK) (GO hK) (by kernel_rfl)) (Ao.up (HX hK) (by decide)) (U9 hK) (A7 AG (A7 (A9 (i:=3) he rfl) Ae))) AR) AG AR) Ae) (Bs PySem.F.slot_list_append PySem.F.type_list_append JH))) Ah)) (Ab (AK (BH (A9 (i:=1) he rfl))) Ah)))
theorem Lw:Ao G 4 (.ref 769) En:=Bj (Lm hK).v
theorem M9:AY G 1 (.ref 776) (AT 2 0 Dq):=by
  apply AN [s!"self",s!"index"] [] (by decide);rw [hK];rfl;rfl;rfl;rfl;rw [hK];kernel_rfl;exact Jr fun ξ ξ=>rfl;kernel_rfl;decide +kernel;decide +kernel;intro L' he;have hnd:([s!"self",s!"index"]++[]:List Str).Nodup:=by decide +kernel
  exact (Ab (AK (De (AD (AC (Aw (A9 (i:=0) he rfl) (CZ hK)) (A9 (i:=1) he rfl)) AG) (Ak AG (AC (Aw (A9 (i:=0) he rfl) (CZ hK)) (A9 (i:=1) he rfl)) AR) AG)) Ah)
theorem Hk:Ao G 1 (.ref 776) Dm:=Bj (M9 hK).v
theorem Kp:AY G 2 (.ref 783) (AT 3 0 CO):=by
  apply AN [s!"self",s!"one",s!"index"] [] (by decide);rw [hK];rfl;rfl;rfl;rfl;rw [hK];kernel_rfl;exact ZV fun ξ ξ ξ=>rfl;kernel_rfl;decide +kernel;decide +kernel;intro L' he;have hnd:([s!"self",s!"one",s!"index"]++[]:List Str).Nodup:=by decide +kernel
  exact (Ab (Bn (AD (Aw (A9 (i:=1) he rfl) (Dh hK)) (Ax he (G7 hK) (G3 hK) (by kernel_rfl))) (Ab (AK (Ak (Ak (Ak (Ak AG (AP (A9 (i:=0) he rfl) (A7 (A9 (i:=2) he rfl) Ae) (Ba (AL.cons (GG hK) (A12 hK) (Ao.up (Hk hK) (by decide)) AL.nil))) AR) AG AR) (Ar (AQ he (Kf hK) (JU) (by kernel_rfl)) O5 rfl (A7 (Aw (A9 (i:=1) he rfl) (Gi hK)) Ae)) AR) AG AR)) Ah) Ah) (Ab (Bn (AD (Aw (A9 (i:=1) he rfl) (Dh hK)) (Ax he (A2l hK) (A1h hK) (by kernel_rfl))) (Ab Cw Ah) Ah) (Ab (Bn (AD (Aw (A9 (i:=1) he rfl) (Dh hK)) (Ax he (A0c hK) (ZD hK) (by kernel_rfl))) (Ab Cw Ah) Ah) (Ab Cw Ah))))
theorem Kv:Ao G 2 (.ref 783) DQ:=Bj (Kp hK).v
theorem Jw:RV G 3 (.ref 790) (AT 1 4 CF):=by
  apply Mm [s!"self"] [s!"found",s!"funcs",s!"one",s!"about"] (by decide);rw [hK];rfl;rfl;rfl;rfl;rw [hK];kernel_rfl;exact F3 fun ξ=>rfl;kernel_rfl;decide +kernel;decide +kernel;intro L' he;have hnd:([s!"self"]++[s!"found",s!"funcs",s!"one",s!"about"]:List Str).Nodup:=by decide +kernel
  exact (Bu (Be (Hz (is:=[1,2]) (names:=[s!"found",s!"funcs"]) he hnd ⟨⟨rfl,.inl (by kernel_rfl)⟩,⟨⟨rfl,.inl (by kernel_rfl)⟩,trivial⟩⟩ rfl (A7 (Cb Ae) (A7 Aj Ae)))) (Bu (A0G trivial (CJ (Aw (Aw (A9 (i:=0) he rfl) (B0 hK)) (F8 hK))) (EH he rfl hnd (by kernel_rfl)) (Bu (Be (B9 he rfl hnd (by kernel_rfl) (AP (A9 (i:=0) he rfl) (A7 (A9 (i:=3) he rfl) (A7 (A9 (i:=2) he rfl) Ae)) (Ba (AL.cons (Js hK) (A6Z hK) (Ao.up (Kv hK) (by decide)) AL.nil))))) (Bu (Yp (P8 (BI (A9 (i:=1) he rfl)) (Ds (GZ (GZ (GZ (GZ (GZ (GZ (BI AG) (F4 (Ax he (MO hK) (MD hK) (by kernel_rfl)) (RV.up (Ol hK) (by decide)) (A1X hK) (Ds (BI (Aw (A9 (i:=3) he rfl) (Ja hK))) EN)) AR) (BI AG) AR) (F4 (Ax he (MO hK) (MD hK) (by kernel_rfl)) (RV.up (Ol hK) (by decide)) (A1X hK) (Ds (BI (Aw (A9 (i:=3) he rfl) (JN hK))) EN)) AR) (BI AG) AR) (BI (A9 (i:=4) he rfl)) AR) (BI AG) AR) EN) (Ng.r (Bs PySem.F.slot_list_append PySem.F.type_list_append JH)))) (Be (Ab (B9 he rfl hnd (by kernel_rfl) (Ak (A9 (i:=2) he rfl) (Ar (AQ he (A7l hK) (A5Z) (by kernel_rfl)) V_int rfl (A7 (KL (Aw (A9 (i:=3) he rfl) (Dh hK)) (Ax he (G7 hK) (G3 hK) (by kernel_rfl))) Ae)) AR)) Ah))))) (Be (Ab (AK (BH (A9 (i:=1) he rfl))) Ah))))
theorem JB:RV G 3 (.ref 790) DA:=KO (Jw hK)
theorem Ln:AY G 2 (.ref 797) (AT 3 0 Db):=by
  apply AN [s!"self",s!"index",s!"many"] [] (by decide);rw [hK];rfl;rfl;rfl;rfl;rw [hK];kernel_rfl;exact ZV fun ξ ξ ξ=>rfl;kernel_rfl;decide +kernel;decide +kernel;intro L' he;have hnd:([s!"self",s!"index",s!"many"]++[]:List Str).Nodup:=by decide +kernel
  exact (Ab (Bn (AD (Aw (A9 (i:=0) he rfl) (Iq hK)) CB) (Ab (AK (BH (Ak (AX (A7 AG Ae)) (A9 (i:=2) he rfl) Ys))) Ah) Ah) (Ab Cw Ah))
theorem Lx:Ao G 2 (.ref 797) Eo:=Bj (Ln hK).v
theorem MR:AY G 2 (.ref 355) (AT 2 0 DG):=by
  apply AN [s!"self",s!"sort"] [] (by decide);rw [hK];rfl;rfl;rfl;rfl;rw [hK];kernel_rfl;exact Jr fun ξ ξ=>rfl;kernel_rfl;decide +kernel;decide +kernel;intro L' he;have hnd:([s!"self",s!"sort"]++[]:List Str).Nodup:=by decide +kernel
  exact (Ab (AK (Ar (AQ he (BO hK) (BM) (by kernel_rfl)) Cr rfl (A7 (AP (A9 (i:=0) he rfl) (A7 (A9 (i:=1) he rfl) Ae) (Ba (AL.cons (Iu hK) (A1V hK) (Ao.up (Jj hK) (by decide)) AL.nil))) Ae))) Ah)
theorem HV:Ao G 2 (.ref 355) DE:=Bj (MR hK).v
theorem MS:AY G 1 (.ref 809) (AT 2 0 DH):=by
  apply AN [s!"self",s!"func"] [] (by decide);rw [hK];rfl;rfl;rfl;rfl;rw [hK];kernel_rfl;exact Jr fun ξ ξ=>rfl;kernel_rfl;decide +kernel;decide +kernel;intro L' he;have hnd:([s!"self",s!"func"]++[]:List Str).Nodup:=by decide +kernel
  exact (Ab (Bn (AD (Aw (A9 (i:=1) he rfl) (F6 hK)) (Ar (AQ he (BO hK) (BM) (by kernel_rfl)) Cr rfl (A7 (Aw (Aw (A9 (i:=0) he rfl) (B0 hK)) (C6 hK)) Ae))) (Ab (AK (AC (Aw (Aw (A9 (i:=0) he rfl) (B0 hK)) (C6 hK)) (Aw (A9 (i:=1) he rfl) (F6 hK)))) Ah) Ah) (Ab (AK (AI (A7 (AI Ae) (A7 (AI Ae) Ae)))) Ah))
theorem HW:Ao G 1 (.ref 809) DF:=Bj (MS hK).v
theorem Ll:AY G 4 (.ref 802) (AT 4 6 D9):=by
  apply AN [s!"self",s!"index",s!"func",s!"ids"] [s!"found",s!"params",s!"results",s!"name",s!"kind",s!"own"] (by decide);rw [hK];rfl;rfl;rfl;rfl;rw [hK];kernel_rfl;exact A34 fun ξ ξ ξ ξ=>rfl;kernel_rfl;decide +kernel;decide +kernel;intro L' he;have hnd:([s!"self",s!"index",s!"func",s!"ids"]++[s!"found",s!"params",s!"results",s!"name",s!"kind",s!"own"]:List Str).Nodup:=by decide +kernel
  exact (Ab (B9 he rfl hnd (by kernel_rfl) (Ak (Ak (Ak (Ak AG (AP (A9 (i:=0) he rfl) (A7 (A9 (i:=1) he rfl) Ae) (Ba (AL.cons (GG hK) (A12 hK) (Ao.up (Hk hK) (by decide)) AL.nil))) AR) AG AR) (Ar (AQ he (Kf hK) (JU) (by kernel_rfl)) O5 rfl (A7 (Aw (A9 (i:=2) he rfl) (F6 hK)) Ae)) AR) AG AR)) (Ab (Yq (is:=[5,6]) he hnd ⟨⟨_,_,rfl,rfl,(.inl (by kernel_rfl))⟩,⟨⟨_,_,rfl,rfl,(.inl (by kernel_rfl))⟩,trivial⟩⟩ (AP (A9 (i:=0) he rfl) (A7 (A9 (i:=2) he rfl) Ae) (Ba (AL.cons (Hf hK) (A13 hK) (Ao.up (HW hK) (by decide)) AL.nil)))) (Ab (Bn (Yr (Ar (AQ he (A7j hK) (A5X) (by kernel_rfl)) V_any rfl (A7 (BH (Dl (cl:=[]) he (CJ (Hy true (A9 (i:=3) he rfl) J9 (GD (Ar (AQ he (BO hK) (BM) (by kernel_rfl)) Cr rfl (A7 (A9 (i:=5) he rfl) Ae))))) (fun ξ=>EP) (fun ξ=>(KL (A9 (i:=0) (BK he rfl) rfl) AG)) It (by kernel_rfl) (by decide) rfl (by decide) (by kernel_rfl))) Ae))) (Ab Cw (Ab Cw Ah)) Ah) (Ab (B9 he rfl hnd (by kernel_rfl) (Hy true (A9 (i:=3) he rfl) (GD (Ar (AQ he (BO hK) (BM) (by kernel_rfl)) Cr rfl (A7 (A9 (i:=5) he rfl) Ae))) J9)) (Ab (Bn (Yr (Ar (AQ he (A7i hK) (A5W) (by kernel_rfl)) V_all rfl (A7 (BH (Dl (cl:=[]) he (CJ (A9 (i:=9) he rfl)) (fun ξ=>EP) (fun ξ=>(KL (A9 (i:=0) (BK he rfl) rfl) AG)) It (by kernel_rfl) (by decide) rfl (by decide) (by kernel_rfl))) Ae))) (Ab (AK (Ak (A9 (i:=4) he rfl) (Ar (Ax he (GP hK) (GO hK) (by kernel_rfl)) (Ao.up (HX hK) (by decide)) (U9 hK) (A7 AG (A7 (Aw (A9 (i:=2) he rfl) (H3 hK)) Ae))) AR)) Ah) Ah) (Ab Cw (Ab (AK (A9 (i:=4) he rfl)) Ah)))))))
theorem Lv:Ao G 4 (.ref 802) Em:=Bj (Ll hK).v
theorem Ux:AY G 1 (.ref 699) (AT 2 0 GQ):=by
  apply AN [s!"self",s!"text"] [] (by decide);rw [hK];rfl;rfl;rfl;rfl;rw [hK];kernel_rfl;exact Jr fun ξ ξ=>rfl;kernel_rfl;decide +kernel;decide +kernel;intro L' he;have hnd:([s!"self",s!"text"]++[]:List Str).Nodup:=by decide +kernel
  exact (Ab (BQ (AP (Aw (A9 (i:=0) he rfl) (JM hK)) (A7 (Ak (Ak (Ax he (Uo hK) (TR hK) (by kernel_rfl)) (Aw (A9 (i:=0) he rfl) (Os hK)) Ys) (A9 (i:=1) he rfl) AR) Ae) (Bs PySem.F.slot_list_append PySem.F.type_list_append JH))) Ah)
theorem J1:Ao G 1 (.ref 699) F9:=(Ux hK).v
theorem Qu:AY G 2 (.ref 706) (AT 1 1 Fh):=by
  apply AN [s!"self"] [s!"text"] (by decide);rw [hK];rfl;rfl;rfl;rfl;rw [hK];kernel_rfl;exact F3 fun ξ=>rfl;kernel_rfl;decide +kernel;decide +kernel;intro L' he;have hnd:([s!"self"]++[s!"text"]:List Str).Nodup:=by decide +kernel
  exact (Ab (EO trivial (CJ (Aw (A9 (i:=0) he rfl) (Cv hK))) (EH he rfl hnd (by kernel_rfl)) (Ab (BQ (AP (A9 (i:=0) he rfl) (A7 (A9 (i:=1) he rfl) Ae) (Ba (AL.cons (I8 hK) (XG hK) (Ao.up (J1 hK) (by decide)) AL.nil)))) Ah)) (Ab (Bg (Cb Ae) (A9 (i:=0) he rfl) (FB hK)) Ah))
theorem Hj:Ao G 2 (.ref 706) DP:=(Qu hK).v
theorem OF:AY G 5 (.ref 734) (AT 2 4 EL):=by
  apply AN [s!"self",s!"instruction"] [s!"text",s!"counts",s!"first",s!"whole"] (by decide);rw [hK];rfl;rfl;rfl;rfl;rw [hK];kernel_rfl;exact Jr fun ξ ξ=>rfl;kernel_rfl;decide +kernel;decide +kernel;intro L' he;have hnd:([s!"self",s!"instruction"]++[s!"text",s!"counts",s!"first",s!"whole"]:List Str).Nodup:=by decide +kernel
  exact (Ab (Hz (is:=[2,3]) (names:=[s!"text",s!"counts"]) he hnd ⟨⟨rfl,.inl (by kernel_rfl)⟩,⟨⟨rfl,.inl (by kernel_rfl)⟩,trivial⟩⟩ rfl (A7 (Ar (Ax he (Es hK) (Er hK) (by kernel_rfl)) (Ao.up (ET hK) (by decide)) (XF hK) (A7 (Aw (A9 (i:=0) he rfl) (Ps hK)) (A7 (A9 (i:=1) he rfl) Ae))) (A7 (Ar (Ax he (MN hK) (MC hK) (by kernel_rfl)) (Ao.up (Ok hK) (by decide)) (A11 hK) (A7 (Aw (A9 (i:=0) he rfl) (Nj hK)) (A7 (A9 (i:=1) he rfl) Ae))) Ae))) (Ab (Bn (FY (CK (AD (A9 (i:=3) he rfl) CB) (CK (AD (AC (A9 (i:=3) he rfl) Aj) (Ar (AQ he (BO hK) (BM) (by kernel_rfl)) Cr rfl (A7 (Aw (A9 (i:=0) he rfl) (Cv hK)) Ae))) H0))) (Ab (BQ (AP (A9 (i:=0) he rfl) Ae (Ba (AL.cons (Gr hK) (XH hK) (Ao.up (Hj hK) (by decide)) AL.nil)))) (Ab (BQ (AP (A9 (i:=0) he rfl) (A7 (A9 (i:=2) he rfl) Ae) (Ba (AL.cons (I8 hK) (XG hK) (Ao.up (J1 hK) (by decide)) AL.nil)))) (Ab A21 Ah))) Ah) (Ab (B9 he rfl hnd (by kernel_rfl) (Ak (Ar (AQ he (BO hK) (BM) (by kernel_rfl)) Cr rfl (A7 (Aw (A9 (i:=0) he rfl) (Cv hK)) Ae)) (AC (A9 (i:=3) he rfl) Aj) Pb)) (Ab (B9 he rfl hnd (by kernel_rfl) (Ak (Ak AG (AP AG (A7 (Ak (AX (A7 (A9 (i:=2) he rfl) Ae)) (Hy true (Aw (A9 (i:=0) he rfl) (Cv hK)) (GD (A9 (i:=4) he rfl)) J9) AR) Ae) (EB PySem.F.slot_str_join PySem.F.type_str_join JI)) AR) AG AR)) (Ab (Bg (Hy false (Aw (A9 (i:=0) he rfl) (Cv hK)) J9 (GD (A9 (i:=4) he rfl))) (A9 (i:=0) he rfl) (FB hK)) (Ab (Bn (AD (AC (A9 (i:=3) he rfl) Aj) Aj) (Ab (BQ (AP (Aw (A9 (i:=0) he rfl) (Cv hK)) (A7 (A9 (i:=5) he rfl) Ae) (Bs PySem.F.slot_list_append PySem.F.type_list_append JH))) Ah) (Ab (BQ (AP (A9 (i:=0) he rfl) Ae (Ba (AL.cons (Gr hK) (XH hK) (Ao.up (Hj hK) (by decide)) AL.nil)))) (Ab (BQ (AP (A9 (i:=0) he rfl) (A7 (A9 (i:=5) he rfl) Ae) (Ba (AL.cons (I8 hK) (XG hK) (Ao.up (J1 hK) (by decide)) AL.nil)))) Ah))) Ah))))))
theorem OO:Ao G 5 (.ref 734) Gj:=(OF hK).v
theorem RY:AY G 6 (.ref 741) (AT 2 2 FN):=by
  apply AN [s!"self",s!"body"] [s!"instruction",s!"code"] (by decide);rw [hK];rfl;rfl;rfl;rfl;rw [hK];kernel_rfl;exact Jr fun ξ ξ=>rfl;kernel_rfl;decide +kernel;decide +kernel;intro L' he;have hnd:([s!"self",s!"body"]++[s!"instruction",s!"code"]:List Str).Nodup:=by decide +kernel
  exact (Ab (EO trivial (CJ (Hy true (A9 (i:=1) he rfl) J9 (GD (Gh Aj)))) (EH he rfl hnd (by kernel_rfl)) (Ab (B9 he rfl hnd (by kernel_rfl) (AC (A9 (i:=2) he rfl) Aj)) (Ab (Bn (AD (A9 (i:=3) he rfl) (AI (A7 (Ax he (W1 hK) (Vx hK) (by kernel_rfl)) (A7 (Ax he (YT hK) (YG hK) (by kernel_rfl)) (A7 (Ax he (A40 hK) (A4P hK) (by kernel_rfl)) Ae))))) (Ab Cw Ah) (Ab (Bn (AD (A9 (i:=3) he rfl) (Ax he (Um hK) (TP hK) (by kernel_rfl))) (Ab Cw Ah) (Ab (Bn (AD (A9 (i:=3) he rfl) (Ax he (A2j hK) (A1f hK) (by kernel_rfl))) (Ab Cw Ah) (Ab (BQ (AP (A9 (i:=0) he rfl) (A7 (A9 (i:=2) he rfl) Ae) (Ba (AL.cons (NG hK) (A6V hK) (Ao.up (OO hK) (by decide)) AL.nil)))) Ah)) Ah)) Ah)) Ah))) (Ab (BQ (AP (A9 (i:=0) he rfl) Ae (Ba (AL.cons (Gr hK) (XH hK) (Ao.up (Hj hK) (by decide)) AL.nil)))) (Ab (AK (BH (Aw (A9 (i:=0) he rfl) (JM hK)))) Ah)))
theorem S8:Ao G 6 (.ref 741) I1:=(RY hK).v
theorem RZ:AY G 1 (.ref 692) (AT 4 0 FO):=by
  apply AN [s!"self",s!"module",s!"told",s!"depth"] [] (by decide);rw [hK];rfl;rfl;rfl;rfl;rw [hK];kernel_rfl;exact A34 fun ξ ξ ξ ξ=>rfl;kernel_rfl;decide +kernel;decide +kernel;intro L' he;have hnd:([s!"self",s!"module",s!"told",s!"depth"]++[]:List Str).Nodup:=by decide +kernel
  exact (Ab (Bg (A9 (i:=1) he rfl) (A9 (i:=0) he rfl) (NO hK)) (Ab (Bg (A9 (i:=2) he rfl) (A9 (i:=0) he rfl) (QD hK)) (Ab (Bg (A9 (i:=3) he rfl) (A9 (i:=0) he rfl) (OH hK)) (Ab (Bg (Cb Ae) (A9 (i:=0) he rfl) (QC hK)) (Ab (Bg (Cb Ae) (A9 (i:=0) he rfl) (FB hK)) (Ab (Bg (AX Ae) (A9 (i:=0) he rfl) (MW hK)) Ah))))))
theorem A2P:Ao G 2 (.ref 744) PC:=Sl (by decide) (by rw [hK];kernel_rfl) (by rw [hK];kernel_rfl) (by rw [hK];kernel_rfl) (RZ hK)
theorem Lj:AY G 7 (.ref 816) (AT 3 4 D8):=by
  apply AN [s!"self",s!"place",s!"func"] [s!"index",s!"ids",s!"told",s!"found"] (by decide);rw [hK];rfl;rfl;rfl;rfl;rw [hK];kernel_rfl;exact ZV fun ξ ξ ξ=>rfl;kernel_rfl;decide +kernel;decide +kernel;intro L' he;have hnd:([s!"self",s!"place",s!"func"]++[s!"index",s!"ids",s!"told",s!"found"]:List Str).Nodup:=by decide +kernel
  exact (Ab (B9 he rfl hnd (by kernel_rfl) (Ak (AP (Aw (A9 (i:=0) he rfl) (B0 hK)) (A7 (Ax he (G7 hK) (G3 hK) (by kernel_rfl)) Ae) (Ba (AL.cons (He hK) (A1U hK) (Ao.up (HV hK) (by decide)) AL.nil))) (A9 (i:=1) he rfl) AR)) (Ab (B9 he rfl hnd (by kernel_rfl) (AP (A9 (i:=0) he rfl) (A7 (A9 (i:=3) he rfl) (A7 (Ak (Ar (AQ he (BO hK) (BM) (by kernel_rfl)) Cr rfl (A7 (AC (AP (A9 (i:=0) he rfl) (A7 (A9 (i:=2) he rfl) Ae) (Ba (AL.cons (Hf hK) (A13 hK) (Ao.up (HW hK) (by decide)) AL.nil))) Aj) Ae)) (Ar (AQ he (BO hK) (BM) (by kernel_rfl)) Cr rfl (A7 (Aw (A9 (i:=2) he rfl) (H3 hK)) Ae)) AR) Ae)) (Ba (AL.cons (Ke hK) (A61 hK) (Ao.up (Lx hK) (by decide)) AL.nil)))) (Ab (B9 he rfl hnd (by kernel_rfl) (BH (Ar (Ax he (Up hK) (TU hK) (by kernel_rfl)) (Ao.up (Y7 hK) (by decide)) (XD hK) (A7 (Aw (A9 (i:=0) he rfl) (CZ hK)) (A7 (A9 (i:=4) he rfl) Ae))))) (Ab (B9 he rfl hnd (by kernel_rfl) (Cb (A7 (AP (A9 (i:=0) he rfl) (A7 (A9 (i:=3) he rfl) (A7 (A9 (i:=2) he rfl) (A7 (A9 (i:=4) he rfl) Ae))) (Ba (AL.cons (Kc hK) (A62 hK) (Ao.up (Lv hK) (by decide)) AL.nil))) Ae))) (Ab (Bn (Yr (Aw (A9 (i:=0) he rfl) (JO hK))) (Ab (BQ (AP (A9 (i:=6) he rfl) (A7 (AP (Ar (Ax he (A0a hK) (ZB hK) (by kernel_rfl)) (Ao.up (A2P hK) (by decide)) (A6X hK) (A7 (Aw (A9 (i:=0) he rfl) (B0 hK)) (A7 (A9 (i:=5) he rfl) (A7 Aj Ae)))) (A7 (Aw (A9 (i:=2) he rfl) (IE hK)) Ae) (Ba (AL.cons (Qh hK) (A6W hK) (Ao.up (S8 hK) (by decide)) AL.nil))) Ae) (Bs PySem.F.slot_list_extend PySem.F.type_list_extend O4))) Ah) (Ab (BQ (AP (A9 (i:=6) he rfl) (A7 (Ar (Ax he (Uq hK) (TV hK) (by kernel_rfl)) (Ao.up (WE hK) (by decide)) (A6U hK) (A7 (A9 (i:=5) he rfl) (A7 (Aw (A9 (i:=2) he rfl) (IE hK)) (A7 Aj Ae)))) Ae) (Bs PySem.F.slot_list_extend PySem.F.type_list_extend O4))) Ah)) (Ab (AK (BH (Ak (A9 (i:=6) he rfl) (AX (A7 AG Ae)) AR))) Ah))))))
theorem Lu:Ao G 7 (.ref 816) El:=Bj (Lj hK).v
theorem Ju:AY G 3 (.ref 849) (AT 1 5 CC):=by
  apply AN [s!"self"] [s!"found",s!"name",s!"sort",s!"index",s!"place"] (by decide);rw [hK];rfl;rfl;rfl;rfl;rw [hK];kernel_rfl;exact F3 fun ξ=>rfl;kernel_rfl;decide +kernel;decide +kernel;intro L' he;have hnd:([s!"self"]++[s!"found",s!"name",s!"sort",s!"index",s!"place"]:List Str).Nodup:=by decide +kernel
  exact (Ab (B9 he rfl hnd (by kernel_rfl) (Cb Ae)) (Ab (EO trivial (CJ (Aw (Aw (A9 (i:=0) he rfl) (B0 hK)) (HD hK))) (Nc he hnd ⟨⟨_,_,rfl,rfl,(by kernel_rfl)⟩,⟨⟨_,_,rfl,rfl,(by kernel_rfl)⟩,⟨⟨_,_,rfl,rfl,(by kernel_rfl)⟩,trivial⟩⟩⟩) (Ab Cw (Ab Cw Ah))) (Ab (Bn (AD (Aw (Aw (A9 (i:=0) he rfl) (B0 hK)) (Jd hK)) CB) (Ab Cw Ah) Ah) (Ab (AK (BH (A9 (i:=1) he rfl))) Ah))))
theorem Jz:Ao G 3 (.ref 849) Dy:=Bj (Ju hK).v
theorem Kq:AY G 1 (.ref 842) (AT 1 1 CP):=by
  apply AN [s!"self"] [s!"found"] (by decide);rw [hK];rfl;rfl;rfl;rfl;rw [hK];kernel_rfl;exact F3 fun ξ=>rfl;kernel_rfl;decide +kernel;decide +kernel;intro L' he;have hnd:([s!"self"]++[s!"found"]:List Str).Nodup:=by decide +kernel
  exact (Ab (P9 (cl:=[]) he rfl hnd (by kernel_rfl) rfl (CJ (Aw (Aw (A9 (i:=0) he rfl) (B0 hK)) (Fz hK))) (fun ξ=>EP) (fun ξ=>LA) It (by kernel_rfl) (by decide) rfl (by decide) (by kernel_rfl)) (A5b (Ab (AK (BH (Ak (A9 (i:=1) he rfl) (BH (Dl (cl:=[]) he (CJ (Aw (Aw (A9 (i:=0) he rfl) (B0 hK)) (EQ hK))) (fun ξ=>EP) (fun ξ=>LA) It (by kernel_rfl) (by decide) rfl (by decide) (by kernel_rfl))) AR))) Ah)))
theorem Kw:Ao G 1 (.ref 842) DR:=Bj (Kq hK).v
theorem Jv:AY G 1 (.ref 823) (AT 1 3 CD):=by
  apply AN [s!"self"] [s!"found",s!"one",s!"body"] (by decide);rw [hK];rfl;rfl;rfl;rfl;rw [hK];kernel_rfl;exact F3 fun ξ=>rfl;kernel_rfl;decide +kernel;decide +kernel;intro L' he;have hnd:([s!"self"]++[s!"found",s!"one",s!"body"]:List Str).Nodup:=by decide +kernel
  exact (Ab (B9 he rfl hnd (by kernel_rfl) (Cb Ae)) (Ab (EO trivial (CJ (Aw (Aw (A9 (i:=0) he rfl) (B0 hK)) (F7 hK))) (EH he rfl hnd (by kernel_rfl)) (Ab Cw (Ab Cw Ah))) (Ab (AK (BH (A9 (i:=1) he rfl))) Ah)))
theorem JA:Ao G 1 (.ref 823) Dz:=Bj (Jv hK).v
theorem Qy:AY G 2 (.ref 861) (AT 1 2 Fm):=by
  apply AN [s!"self"] [s!"told",s!"name"] (by decide);rw [hK];rfl;rfl;rfl;rfl;rw [hK];kernel_rfl;exact F3 fun ξ=>rfl;kernel_rfl;decide +kernel;decide +kernel;intro L' he;have hnd:([s!"self"]++[s!"told",s!"name"]:List Str).Nodup:=by decide +kernel
  exact (Ab (B9 he rfl hnd (by kernel_rfl) (De (FY (CK (AD (Aw (A9 (i:=0) he rfl) (Iq hK)) CB) (CK A5c H0))) UX LA)) (Ab (B9 he rfl hnd (by kernel_rfl) (AC (Ar (Ax he (SK hK) (Sv hK) (by kernel_rfl)) (Ao.up (WF hK) (by decide)) (A1Y hK) (A7 (A9 (i:=1) he rfl) (A7 Aj Ae))) Aj)) (Ab (AK (De (AD (A9 (i:=2) he rfl) AG) (Ax he (Qk hK) (PW hK) (by kernel_rfl)) LA)) Ah)))
theorem QQ:Ao G 2 (.ref 861) H7:=Bj (Qy hK).v
theorem Qz:RV G 8 (.ref 854) (AT 1 3 Fn):=by
  apply Mm [s!"self"] [s!"rows",s!"place",s!"func"] (by decide);rw [hK];rfl;rfl;rfl;rfl;rw [hK];kernel_rfl;exact F3 fun ξ=>rfl;kernel_rfl;decide +kernel;decide +kernel;intro L' he;have hnd:([s!"self"]++[s!"rows",s!"place",s!"func"]:List Str).Nodup:=by decide +kernel
  exact (Bu (A0H he rfl hnd (by kernel_rfl) (GZ (BI (AP (A9 (i:=0) he rfl) Ae (Ba (AL.cons (Kd hK) (A6Y hK) (Ao.up (Lw hK) (by decide)) AL.nil)))) (P8 (BI (A9 (i:=0) he rfl)) EN (NI (KM.one (IS hK) (A60 hK) (RV.up (JB hK) (by decide))))) AR)) (Be (Ab (EO ⟨_,_,_,rfl⟩ (A0E (AQ he (Uh hK) (Tu) (by kernel_rfl)) (Aw (Aw (A9 (i:=0) he rfl) (B0 hK)) (EJ hK))) (Nc he hnd ⟨⟨_,_,rfl,rfl,(by kernel_rfl)⟩,⟨⟨_,_,rfl,rfl,(by kernel_rfl)⟩,trivial⟩⟩) (Ab (BQ (AP (A9 (i:=1) he rfl) (A7 (AP (A9 (i:=0) he rfl) (A7 (A9 (i:=2) he rfl) (A7 (A9 (i:=3) he rfl) Ae)) (Ba (AL.cons (Kb hK) (A63 hK) (Ao.up (Lu hK) (by decide)) AL.nil))) Ae) (Bs PySem.F.slot_list_extend PySem.F.type_list_extend O4))) Ah)) (Ab (BQ (AP (A9 (i:=1) he rfl) (A7 (Ak (Ak (AP (A9 (i:=0) he rfl) Ae (Ba (AL.cons (Jt hK) (A65 hK) (Ao.up (Kw hK) (by decide)) AL.nil))) (AP (A9 (i:=0) he rfl) Ae (Ba (AL.cons (IR hK) (A64 hK) (Ao.up (JA hK) (by decide)) AL.nil))) AR) (AP (A9 (i:=0) he rfl) Ae (Ba (AL.cons (IQ hK) (A66 hK) (Ao.up (Jz hK) (by decide)) AL.nil))) AR) Ae) (Bs PySem.F.slot_list_extend PySem.F.type_list_extend O4))) (Ab (BQ (AP (A9 (i:=1) he rfl) (A7 (Dl (cl:=[(s!"self",L' + 1)]) he (CJ (Aw (Aw (A9 (i:=0) he rfl) (B0 hK)) (Jc hK))) (fun ξ=>EP) (fun ξ=>LA) It (by kernel_rfl) (by decide) rfl (by decide) (by kernel_rfl)) Ae) (Bs PySem.F.slot_list_extend PySem.F.type_list_extend O4))) (Ab (BQ (AP (A9 (i:=1) he rfl) (A7 (Dl (cl:=[(s!"self",L' + 1)]) he (CJ (Aw (Aw (A9 (i:=0) he rfl) (B0 hK)) (Jb hK))) (fun ξ=>EP) (fun ξ=>LA) It (by kernel_rfl) (by decide) rfl (by decide) (by kernel_rfl)) Ae) (Bs PySem.F.slot_list_extend PySem.F.type_list_extend O4))) (Ab (AK (Ak (AP AG (A7 (Ak (Ak (AX (A7 (AP (A9 (i:=0) he rfl) Ae (Ba (AL.cons (OD hK) (A67 hK) (Ao.up (QQ hK) (by decide)) AL.nil))) Ae)) (Dl (cl:=[]) he (CJ (A9 (i:=1) he rfl)) (fun ξ=>EP) (fun ξ=>(Ak (Ax (BK he rfl) (Uo hK) (TR hK) (by kernel_rfl)) (A9 (i:=0) (BK he rfl) rfl) AR)) It (by kernel_rfl) (by decide) rfl (by decide) (by kernel_rfl)) AR) (AX (A7 AG Ae)) AR) Ae) (EB PySem.F.slot_str_join PySem.F.type_str_join JI)) AG AR)) Ah)))))))
theorem Kx:RV G 8 (.ref 854) Fb:=KO (Qz hK)
theorem S2:AY G 3 (.ref 393) (AT 2 1 FR):=by
  apply AN [s!"self",s!"sort"] [s!"own"] (by decide);rw [hK];rfl;rfl;rfl;rfl;rw [hK];kernel_rfl;exact Jr fun ξ ξ=>rfl;kernel_rfl;decide +kernel;decide +kernel;intro L' he;have hnd:([s!"self",s!"sort"]++[s!"own"]:List Str).Nodup:=by decide +kernel
  exact (Ab (B9 he rfl hnd (by kernel_rfl) (AC (AX (A7 (Aw (A9 (i:=0) he rfl) (EJ hK)) (A7 (Aw (A9 (i:=0) he rfl) (Fz hK)) (A7 (Aw (A9 (i:=0) he rfl) (EQ hK)) (A7 (Aw (A9 (i:=0) he rfl) (F7 hK)) Ae))))) (A9 (i:=1) he rfl))) (Ab (AK (Ak (AP (A9 (i:=0) he rfl) (A7 (A9 (i:=1) he rfl) Ae) (Ba (AL.cons (He hK) (A1U hK) (Ao.up (HV hK) (by decide)) AL.nil))) (Ar (AQ he (BO hK) (BM) (by kernel_rfl)) Cr rfl (A7 (A9 (i:=2) he rfl) Ae)) AR)) Ah))
theorem S9:Ao G 3 (.ref 393) I2:=Bj (S2 hK).v
theorem Qx:AY G 4 (.ref 762) (AT 4 1 Fk):=by
  apply AN [s!"self",s!"module",s!"names",s!"is_folded"] [s!"func_names"] (by decide);rw [hK];rfl;rfl;rfl;rfl;rw [hK];kernel_rfl;exact A34 fun ξ ξ ξ ξ=>rfl;kernel_rfl;decide +kernel;decide +kernel;intro L' he;have hnd:([s!"self",s!"module",s!"names",s!"is_folded"]++[s!"func_names"]:List Str).Nodup:=by decide +kernel
  exact (Ab (Bg (A9 (i:=1) he rfl) (A9 (i:=0) he rfl) (N0 hK)) (Ab (Bg (A9 (i:=2) he rfl) (A9 (i:=0) he rfl) (NQ hK)) (Ab (Bg (A9 (i:=3) he rfl) (A9 (i:=0) he rfl) (Ks hK)) (Ab (B9 he rfl hnd (by kernel_rfl) (De (AD (A9 (i:=2) he rfl) CB) UX LA)) (Ab (Bg (Ar (Ax he (SK hK) (Sv hK) (by kernel_rfl)) (Ao.up (WF hK) (by decide)) (A1Y hK) (A7 (A9 (i:=4) he rfl) (A7 (AP (A9 (i:=1) he rfl) (A7 (Ax he (G7 hK) (G3 hK) (by kernel_rfl)) Ae) (Ba (AL.cons (Qi hK) (A6L hK) (Ao.up (S9 hK) (by decide)) AL.nil))) Ae))) (A9 (i:=0) he rfl) (Lq hK)) (Ab (Bg (BH (Ar (Ax he (Up hK) (TU hK) (by kernel_rfl)) (Ao.up (Y7 hK) (by decide)) (XD hK) (A7 (Aw (A9 (i:=0) he rfl) (CZ hK)) (A7 (AX Ae) Ae)))) (A9 (i:=0) he rfl) (Jy hK)) Ah))))))
theorem T0:Ao G 5 (.ref 864) KP:=Sl (by decide) (by rw [hK];kernel_rfl) (by rw [hK];kernel_rfl) (by rw [hK];kernel_rfl) (Qx hK)
theorem QA:RV G 9 (.ref 883) (Oj 2 [.none] 0 Fo):=by
  apply Sg [s!"module",s!"names"] [] [.none] [.none] (fun ξ ξ=>.cons .none .nil) (by decide);rw [hK];rfl;rfl;rfl;rfl;rw [hK];kernel_rfl;exact A4W fun a h X s e=>kp_binds (by rw [e];exact X) (by rw [hK];intro S;rfl);kernel_rfl;decide +kernel;decide +kernel;intro L' he;have hnd:([s!"module",s!"names"]++[]:List Str).Nodup:=by decide +kernel
  exact (Bu (WO (P8 (BI (BH (Ar (Ax he (Ql hK) (PX hK) (by kernel_rfl)) (Ao.up (T0 hK) (by decide)) (A15 hK) (A7 (A9 (i:=0) he rfl) (A7 (A9 (i:=1) he rfl) (A7 OP Ae)))))) EN (NI (KM.one (Jg hK) (A14 hK) (RV.up (Kx hK) (by decide)))))) (Be Ah))
theorem QR:RV G 9 (.ref 883) H8:=KO (QA hK)
theorem S3:RV G 9 (.ref 891) (Oj 2 [.none] 0 FT):=by
  apply Sg [s!"module",s!"names"] [] [.none] [.none] (fun ξ ξ=>.cons .none .nil) (by decide);rw [hK];rfl;rfl;rfl;rfl;rw [hK];kernel_rfl;exact A4W fun a h X s e=>kp_binds (by rw [e];exact X) (by rw [hK];intro S;rfl);kernel_rfl;decide +kernel;decide +kernel;intro L' he;have hnd:([s!"module",s!"names"]++[]:List Str).Nodup:=by decide +kernel
  exact (Bu (WO (P8 (BI (BH (Ar (Ax he (Ql hK) (PX hK) (by kernel_rfl)) (Ao.up (T0 hK) (by decide)) (A15 hK) (A7 (A9 (i:=0) he rfl) (A7 (A9 (i:=1) he rfl) (A7 OP Ae)))))) EN (NI (KM.one (Jg hK) (A14 hK) (RV.up (Kx hK) (by decide)))))) (Be Ah))
theorem Sa:RV G 9 (.ref 891) I3:=KO (S3 hK)
theorem XZ:AY G 1 (.ref 936) (AT 1 0 IX):=by
  apply AN [s!"d"] [] (by decide);rw [hK];rfl;rfl;rfl;rfl;rw [hK];kernel_rfl;exact F3 fun ξ=>rfl;kernel_rfl;decide +kernel;decide +kernel;intro L' he;have hnd:([s!"d"]++[]:List Str).Nodup:=by decide +kernel
  exact (Ab (AK (AX (A7 (AI (A7 Aj (A7 (Ak (Ak (A9 (i:=0) he rfl) Aj BS) Aj Pb) Ae))) (A7 (AI (A7 Aj (A7 (Ak (A9 (i:=0) he rfl) Aj BS) Ae))) (A7 (AI (A7 Aj (A7 (Ak (Ak (A9 (i:=0) he rfl) Aj BS) Aj Pb) Ae))) (A7 (AI (A7 Aj (A7 (Ak (A9 (i:=0) he rfl) Aj BS) Ae))) (A7 (AI (A7 Aj (A7 (Ak (Ak (A9 (i:=0) he rfl) Aj JE) Aj BS) Ae))) (A7 (AI (A7 Aj (A7 (Ak (A9 (i:=0) he rfl) Aj BS) Ae))) (A7 (AI (A7 Aj (A7 (Ak (A9 (i:=0) he rfl) Aj BS) Ae))) (A7 (AI (A7 Aj (A7 (Ak (A9 (i:=0) he rfl) Aj BS) Ae))) (A7 (AI (A7 Aj (A7 (Ak (A9 (i:=0) he rfl) Aj BS) Ae))) (A7 (AI (A7 Aj Ae)) (A7 (AI (A7 Aj Ae)) (A7 (AI (A7 Aj (A7 (AC (AI (A7 (Gh Aj) (A7 (Gh Aj) (A7 (Gh Aj) Ae)))) (Ak (A9 (i:=0) he rfl) Aj BS)) Ae))) (A7 (AI (A7 Aj (A7 (Ak (A9 (i:=0) he rfl) Aj BS) Ae))) (A7 (AI (A7 Aj (A7 (Ak (A9 (i:=0) he rfl) Aj BS) Ae))) (A7 (AI (A7 Aj (A7 (Ak (Ak (A9 (i:=0) he rfl) Aj JE) Aj BS) Ae))) (A7 (AI (A7 Aj (A7 (Ak (A9 (i:=0) he rfl) Aj BS) (A7 (Ak (Ak (A9 (i:=0) he rfl) Aj JE) Aj BS) Ae)))) (A7 (AI (A7 Aj (A7 (Ak (Ak (A9 (i:=0) he rfl) Aj JE) Aj BS) (A7 (Ak (A9 (i:=0) he rfl) Aj BS) Ae)))) (A7 (AI (A7 Aj Ae)) (A7 (AI (A7 Aj Ae)) (A7 (AI (A7 Aj Ae)) (A7 (AI (A7 Aj Ae)) (A7 (AI (A7 Aj (A7 (Ak (A9 (i:=0) he rfl) Aj BS) (A7 (Ak (Ak (A9 (i:=0) he rfl) Aj JE) Aj BS) Ae)))) (A7 (AI (A7 Aj (A7 (Ak (A9 (i:=0) he rfl) Aj BS) (A7 (Ak (Ak (A9 (i:=0) he rfl) Aj JE) Aj BS) Ae)))) (A7 (AI (A7 Aj Ae)) (A7 (AI (A7 Aj Ae)) (A7 (AI (A7 Aj (A7 (Ak (A9 (i:=0) he rfl) Aj BS) Ae))) (A7 (AI (A7 Aj (A7 (Ak (A9 (i:=0) he rfl) Aj BS) Ae))) (A7 (AI (A7 Aj (A7 (AC (AI (A7 (Gh Aj) (A7 (Gh Aj) Ae))) (Ak (A9 (i:=0) he rfl) Aj BS)) Ae))) (A7 (AI (A7 Aj Ae)) (A7 (AI (A7 Aj (A7 (Ak (A9 (i:=0) he rfl) Aj BS) Ae))) (A7 (AI (A7 Aj (A7 (Ak (A9 (i:=0) he rfl) Aj BS) Ae))) (A7 (AI (A7 Aj (A7 (Ak (A9 (i:=0) he rfl) Aj BS) Ae))) (A7 (AI (A7 Aj Ae)) (A7 (AI (A7 Aj Ae)) (A7 (AI (A7 Aj (A7 (Ak (A9 (i:=0) he rfl) Aj BS) (A7 (Ak (Ak (A9 (i:=0) he rfl) Aj JE) Aj BS) Ae)))) (A7 (AI (A7 Aj (A7 (Ak (A9 (i:=0) he rfl) Aj BS) Ae))) (A7 (AI (A7 Aj (A7 (Ak (A9 (i:=0) he rfl) Aj BS) (A7 (Ak (Ak (A9 (i:=0) he rfl) Aj JE) Aj BS) Ae)))) (A7 (AI (A7 Aj (A7 (Ak (A9 (i:=0) he rfl) Aj BS) Ae))) (A7 (AI (A7 Aj (A7 (Ak (A9 (i:=0) he rfl) Aj BS) Ae))) (A7 (AI (A7 Aj (A7 (Ak (A9 (i:=0) he rfl) Aj BS) Ae))) (A7 (AI (A7 Aj (A7 Aj Ae))) (A7 (AI (A7 Aj (A7 Aj Ae))) (A7 (AI (A7 Aj (A7 Aj (A7 Aj Ae)))) (A7 (AI (A7 Aj Ae)) (A7 (AI (A7 Aj Ae)) (A7 (AI (A7 Aj Ae)) (A7 (AI (A7 Aj (A7 (Ak (A9 (i:=0) he rfl) Aj BS) Ae))) (A7 (AI (A7 Aj (A7 (Ak (A9 (i:=0) he rfl) Aj BS) (A7 (Ak (Ak (A9 (i:=0) he rfl) Aj JE) Aj BS) Ae)))) (A7 (AI (A7 Aj (A7 (Ak (A9 (i:=0) he rfl) Aj BS) Ae))) (A7 (AI (A7 Aj Ae)) Ae)))))))))))))))))))))))))))))))))))))))))))))))))))) Ah)
theorem Y9:Ao G 1 (.ref 936) LX:=Bj (XZ hK).v
theorem UB:AY G 1 (.ref 943) (AT 2 3 GU):=by
  apply AN [s!"op",s!"funcs"] [s!"kind",s!"counts",s!"codes"] (by decide);rw [hK];rfl;rfl;rfl;rfl;rw [hK];kernel_rfl;exact Jr fun ξ ξ=>rfl;kernel_rfl;decide +kernel;decide +kernel;intro L' he;have hnd:([s!"op",s!"funcs"]++[s!"kind",s!"counts",s!"codes"]:List Str).Nodup:=by decide +kernel
  exact (Ab (Bn (AD (AC (A9 (i:=0) he rfl) Aj) (AI (A7 Aj (A7 Aj Ae)))) (Ab (B9 he rfl hnd (by kernel_rfl) (AC (A9 (i:=0) he rfl) Aj)) (Ab (Bn (AD (AC (A9 (i:=0) he rfl) Aj) Aj) (Ab (B9 he rfl hnd (by kernel_rfl) (De (AD (A9 (i:=2) he rfl) (Ar (AQ he (BO hK) (BM) (by kernel_rfl)) Cr rfl (A7 (A9 (i:=1) he rfl) Ae))) (AC (A9 (i:=1) he rfl) (A9 (i:=2) he rfl)) (Ar (AQ he (BO hK) (BM) (by kernel_rfl)) Cr rfl (A7 (Ax he (Fd hK) (Fc hK) (by kernel_rfl)) Ae)))) Ah) Ah) (Ab (Bn (AD (A9 (i:=2) he rfl) (Ar (AQ he (BO hK) (BM) (by kernel_rfl)) Cr rfl (A7 (Ax he (Fd hK) (Fc hK) (by kernel_rfl)) Ae))) (Ab (AK CB) Ah) Ah) (Ab (AK (AI (A7 (Ak (Ak (Ar (AQ he (BO hK) (BM) (by kernel_rfl)) Cr rfl (A7 (AC (AC (Ax he (Fd hK) (Fc hK) (by kernel_rfl)) (A9 (i:=2) he rfl)) Aj) Ae)) (AC (A9 (i:=0) he rfl) Aj) AR) Aj Pb) (A7 (Ar (AQ he (BO hK) (BM) (by kernel_rfl)) Cr rfl (A7 (AC (AC (Ax he (Fd hK) (Fc hK) (by kernel_rfl)) (A9 (i:=2) he rfl)) Aj) Ae)) Ae)))) Ah)))) Ah) (Ab (EO trivial (CJ (Ax he (W7 hK) (VD hK) (by kernel_rfl))) (Nc he hnd ⟨⟨_,_,rfl,rfl,(by kernel_rfl)⟩,⟨⟨_,_,rfl,rfl,(by kernel_rfl)⟩,trivial⟩⟩) (Ab (Bn (AD (AC (A9 (i:=0) he rfl) Aj) (A9 (i:=4) he rfl)) (Ab (AK (A9 (i:=3) he rfl)) Ah) Ah) Ah)) (Ab (AK CB) Ah)))
theorem US:Ao G 1 (.ref 943) II:=Bj (UB hK).v
theorem UC:AY G 1 (.ref 950) (AT 2 5 GV):=by
  apply AN [s!"texts",s!"counts"] [s!"rows",s!"waiting",s!"k",s!"cut",s!"whole"] (by decide);rw [hK];rfl;rfl;rfl;rfl;rw [hK];kernel_rfl;exact Jr fun ξ ξ=>rfl;kernel_rfl;decide +kernel;decide +kernel;intro L' he;have hnd:([s!"texts",s!"counts"]++[s!"rows",s!"waiting",s!"k",s!"cut",s!"whole"]:List Str).Nodup:=by decide +kernel
  exact (Ab (Hz (is:=[2,3]) (names:=[s!"rows",s!"waiting"]) he hnd ⟨⟨rfl,.inl (by kernel_rfl)⟩,⟨⟨rfl,.inl (by kernel_rfl)⟩,trivial⟩⟩ rfl (A7 (AX Ae) (A7 (AX Ae) Ae))) (Ab (EO trivial (Nd (AQ he (Qj hK) (PA) (by kernel_rfl)) (Ar (AQ he (BO hK) (BM) (by kernel_rfl)) Cr rfl (A7 (A9 (i:=0) he rfl) Ae))) (EH he rfl hnd (by kernel_rfl)) (Ab (Bn (FY (CK (AD (AC (A9 (i:=1) he rfl) (A9 (i:=4) he rfl)) CB) (CK (AD (AC (AC (A9 (i:=1) he rfl) (A9 (i:=4) he rfl)) Aj) (Ar (AQ he (BO hK) (BM) (by kernel_rfl)) Cr rfl (A7 (A9 (i:=3) he rfl) Ae))) H0))) (Ab (Hz (is:=[2,3]) (names:=[s!"rows",s!"waiting"]) he hnd ⟨⟨rfl,.inl (by kernel_rfl)⟩,⟨⟨rfl,.inl (by kernel_rfl)⟩,trivial⟩⟩ rfl (A7 (BH (Ak (BH (Ak (A9 (i:=2) he rfl) (A9 (i:=3) he rfl) AR)) (AX (A7 (AC (A9 (i:=0) he rfl) (A9 (i:=4) he rfl)) Ae)) AR)) (A7 (AX Ae) Ae))) Ah) (Ab (B9 he rfl hnd (by kernel_rfl) (Ak (Ar (AQ he (BO hK) (BM) (by kernel_rfl)) Cr rfl (A7 (A9 (i:=3) he rfl) Ae)) (AC (AC (A9 (i:=1) he rfl) (A9 (i:=4) he rfl)) Aj) Pb)) (Ab (B9 he rfl hnd (by kernel_rfl) (Ak (Ak AG (AP AG (A7 (BH (Ak (AX (A7 (AC (A9 (i:=0) he rfl) (A9 (i:=4) he rfl)) Ae)) (Hy true (A9 (i:=3) he rfl) (GD (A9 (i:=5) he rfl)) J9) AR)) Ae) (EB PySem.F.slot_str_join PySem.F.type_str_join JI)) AR) AG AR)) (Ab (B9 he rfl hnd (by kernel_rfl) (BH (Ak (Hy true (A9 (i:=3) he rfl) J9 (GD (A9 (i:=5) he rfl))) (AX (A7 (A9 (i:=6) he rfl) Ae)) AR))) (Ab (Bn (AD (AC (AC (A9 (i:=1) he rfl) (A9 (i:=4) he rfl)) Aj) Aj) (Ab (Hz (is:=[2,3]) (names:=[s!"rows",s!"waiting"]) he hnd ⟨⟨rfl,.inl (by kernel_rfl)⟩,⟨⟨rfl,.inl (by kernel_rfl)⟩,trivial⟩⟩ rfl (A7 (BH (Ak (A9 (i:=2) he rfl) (A9 (i:=3) he rfl) AR)) (A7 (AX Ae) Ae))) Ah) Ah) Ah))))) Ah)) (Ab (AK (BH (Ak (A9 (i:=2) he rfl) (A9 (i:=3) he rfl) AR))) Ah)))
theorem UT:Ao G 1 (.ref 950) IJ:=Bj (UC hK).v
theorem XY:AY G 1 (.ref 957) (AT 1 4 IW):=by
  apply AN [s!"row"] [s!"found",s!"word",s!"words",s!"ahead"] (by decide);rw [hK];rfl;rfl;rfl;rfl;rw [hK];kernel_rfl;exact F3 fun ξ=>rfl;kernel_rfl;decide +kernel;decide +kernel;intro L' he;have hnd:([s!"row"]++[s!"found",s!"word",s!"words",s!"ahead"]:List Str).Nodup:=by decide +kernel
  exact (A0J (AC (A9 (i:=0) he rfl) Aj) (Ab (AK (BH (Cb (A7 (A9 (i:=0) he rfl) Ae)))) Ah) (Zd (B9 he rfl hnd (by kernel_rfl) (Cb (A7 (Cb (A7 (Cb Ae) (A7 (Cb Ae) Ae))) Ae))) (WP (A20 trivial (A5a (A2Y (Sf (Sf (WR (A9 (i:=0) he rfl)) (by kernel_rfl)) (by kernel_rfl)) Ae (EB PySem.F.slot_str_split PySem.F.type_str_split Yw))) (EH he rfl hnd (by kernel_rfl)) (Ab (Bn (AD (A9 (i:=2) he rfl) AG) (Ab (BQ (AP (A9 (i:=1) he rfl) (A7 (Cb (A7 (Cb Ae) (A7 (Cb Ae) Ae))) Ae) (Bs PySem.F.slot_list_append PySem.F.type_list_append JH))) Ah) (Ab (Bn (AD (A9 (i:=2) he rfl) AG) (Ab (Yq (is:=[3,4]) he hnd ⟨⟨_,_,rfl,rfl,(.inl (by kernel_rfl))⟩,⟨⟨_,_,rfl,rfl,(.inl (by kernel_rfl))⟩,trivial⟩⟩ (AP (A9 (i:=1) he rfl) Ae (Bs PySem.F.slot_list_pop PySem.F.type_list_pop V_pop))) (Ab (Bn (AD (AC (A9 (i:=3) he rfl) Aj) (AI (A7 AG (A7 AG Ae)))) (Ab (BQ (AP (AC (AC (A9 (i:=1) he rfl) (Gh Aj)) Aj) (A7 (Ak (Ak AG (AP AG (A7 (A9 (i:=3) he rfl) Ae) (EB PySem.F.slot_str_join PySem.F.type_str_join JI)) AR) AG AR) Ae) (Bs PySem.F.slot_list_append PySem.F.type_list_append JH))) Ah) (Ab (BQ (AP (AC (AC (A9 (i:=1) he rfl) (Gh Aj)) Aj) (A7 (Ak (A9 (i:=4) he rfl) (Cb (A7 (AP AG (A7 (A9 (i:=3) he rfl) Ae) (EB PySem.F.slot_str_join PySem.F.type_str_join JI)) Ae)) AR) Ae) (Bs PySem.F.slot_list_extend PySem.F.type_list_extend O4))) Ah)) Ah)) (Ab (BQ (AP (AC (AC (A9 (i:=1) he rfl) (Gh Aj)) Aj) (A7 (A9 (i:=2) he rfl) Ae) (Bs PySem.F.slot_list_append PySem.F.type_list_append JH))) Ah)) Ah)) Ah)) (Ab (AK (BH (AC (AC (A9 (i:=1) he rfl) Aj) Aj))) Ah))))
theorem Y8:Ao G 1 (.ref 957) LW:=Bj (XY hK).v
theorem S4:AY G 1 (.ref 962) (AT 1 3 FU):=by
  apply AN [s!"text"] [s!"lines",s!"at",s!"rows"] (by decide);rw [hK];rfl;rfl;rfl;rfl;rw [hK];kernel_rfl;exact F3 fun ξ=>rfl;kernel_rfl;decide +kernel;decide +kernel;intro L' he;have hnd:([s!"text"]++[s!"lines",s!"at",s!"rows"]:List Str).Nodup:=by decide +kernel
  exact (Ab (B9 he rfl hnd (by kernel_rfl) (BH (AP (A9 (i:=0) he rfl) (A7 AG Ae) (EB PySem.F.slot_str_split PySem.F.type_str_split Yw)))) (Ab (B9 he rfl hnd (by kernel_rfl) (AP (A9 (i:=1) he rfl) (A7 AG Ae) (Bs PySem.F.slot_list_index PySem.F.type_list_index Yv))) (Ab (B9 he rfl hnd (by kernel_rfl) (Hy true (A9 (i:=1) he rfl) (GD (Ak (A9 (i:=2) he rfl) Aj AR)) (GD (AP (A9 (i:=1) he rfl) (A7 AG (A7 (A9 (i:=2) he rfl) Ae)) (Bs PySem.F.slot_list_index PySem.F.type_list_index Yv))))) (Ab (Bn (AD (BH (Dl (cl:=[]) he (CJ (A9 (i:=3) he rfl)) (fun ξ=>(A0I (FY (CK (AD (Hy true (A9 (i:=0) (BK he rfl) rfl) J9 (GD Aj)) AG) (CK (AD (Hy true (A9 (i:=0) (BK he rfl) rfl) (GD Aj) (GD Aj)) AG) H0))))) (fun ξ=>(A9 (i:=0) (BK he rfl) rfl)) It (by kernel_rfl) (by decide) rfl (by decide) (by kernel_rfl))) (AX Ae)) (Ab (AK CB) Ah) Ah) (Ab (AK (BH (Dl (cl:=[]) he (CJ (A9 (i:=3) he rfl)) (fun ξ=>EP) (fun ξ=>(Hy true (A9 (i:=0) (BK he rfl) rfl) (GD Aj) J9)) It (by kernel_rfl) (by decide) rfl (by decide) (by kernel_rfl)))) Ah)))))
theorem LJ:Ao G 1 (.ref 962) FH:=Bj (S4 hK).v
theorem S1:AY G 1 (.ref 348) (AT 1 0 FQ):=by
  apply AN [s!"self"] [] (by decide);rw [hK];rfl;rfl;rfl;rfl;rw [hK];kernel_rfl;exact F3 fun ξ=>rfl;kernel_rfl;decide +kernel;decide +kernel;intro L' he;have hnd:([s!"self"]++[]:List Str).Nodup:=by decide +kernel
  exact (Ab (Bg (AX Ae) (A9 (i:=0) he rfl) (Ji hK)) (Ab (Bg (AX Ae) (A9 (i:=0) he rfl) (HL hK)) (Ab (Bg (AX Ae) (A9 (i:=0) he rfl) (Jh hK)) (Ab (Bg (AX Ae) (A9 (i:=0) he rfl) (NP hK)) (Ab (Bg (AX Ae) (A9 (i:=0) he rfl) (Me hK)) (Ab (Bg (AX Ae) (A9 (i:=0) he rfl) (MZ hK)) (Ab (Bg (AX Ae) (A9 (i:=0) he rfl) (MY hK)) (Ab (Bg CB (A9 (i:=0) he rfl) (OM hK)) (Ab (Bg (AX Ae) (A9 (i:=0) he rfl) (OL hK)) (Ab (Bg (AX Ae) (A9 (i:=0) he rfl) (OK hK)) (Ab (Bg (AX Ae) (A9 (i:=0) he rfl) (MX hK)) Ah)))))))))))
theorem A2R:Ao G 2 (.ref 443) PF:=Sl (by decide) (by rw [hK];kernel_rfl) (by rw [hK];kernel_rfl) (by rw [hK];kernel_rfl) (S1 hK)
theorem S0:AY G 1 (.ref 182) (AT 5 0 FP):=by
  apply AN [s!"self",s!"place",s!"name",s!"sort",s!"about"] [] (by decide);rw [hK];rfl;rfl;rfl;rfl;rw [hK];kernel_rfl;exact len5 fun ξ ξ ξ ξ ξ=>rfl;kernel_rfl;decide +kernel;decide +kernel;intro L' he;have hnd:([s!"self",s!"place",s!"name",s!"sort",s!"about"]++[]:List Str).Nodup:=by decide +kernel
  exact (Ab (Bg (A9 (i:=1) he rfl) (A9 (i:=0) he rfl) (OJ hK)) (Ab (Bg (A9 (i:=2) he rfl) (A9 (i:=0) he rfl) (QF hK)) (Ab (Bg (A9 (i:=3) he rfl) (A9 (i:=0) he rfl) (QG hK)) (Ab (Bg (A9 (i:=4) he rfl) (A9 (i:=0) he rfl) (OI hK)) Ah))))
theorem A2Q:Ao G 2 (.ref 192) PE:=Sl (by decide) (by rw [hK];kernel_rfl) (by rw [hK];kernel_rfl) (by rw [hK];kernel_rfl) (S0 hK)
theorem Wf:AY G 1 (.ref 210) (AT 4 0 HN):=by
  apply AN [s!"self",s!"kind",s!"locals_now",s!"body"] [] (by decide);rw [hK];rfl;rfl;rfl;rfl;rw [hK];kernel_rfl;exact A34 fun ξ ξ ξ ξ=>rfl;kernel_rfl;decide +kernel;decide +kernel;intro L' he;have hnd:([s!"self",s!"kind",s!"locals_now",s!"body"]++[]:List Str).Nodup:=by decide +kernel
  exact (Ab (Bg (A9 (i:=1) he rfl) (A9 (i:=0) he rfl) (UL hK)) (Ab (Bg (A9 (i:=2) he rfl) (A9 (i:=0) he rfl) (QE hK)) (Ab (Bg (A9 (i:=3) he rfl) (A9 (i:=0) he rfl) (UK hK)) Ah)))
theorem Y6:Ao G 2 (.ref 220) PD:=Sl (by decide) (by rw [hK];kernel_rfl) (by rw [hK];kernel_rfl) (by rw [hK];kernel_rfl) (Wf hK)
theorem Qw:AY G 3 (.ref 421) (AT 1 1 Fj):=by
  apply AN [s!"self"] [s!"own"] (by decide);rw [hK];rfl;rfl;rfl;rfl;rw [hK];kernel_rfl;exact F3 fun ξ=>rfl;kernel_rfl;decide +kernel;decide +kernel;intro L' he;have hnd:([s!"self"]++[s!"own"]:List Str).Nodup:=by decide +kernel
  exact (Ab (B9 he rfl hnd (by kernel_rfl) (AX (A7 (Ar (AQ he (G6 hK) (G1) (by kernel_rfl)) HA rfl (A7 (Aw (A9 (i:=0) he rfl) (C6 hK)) Ae)) (A7 (Ar (Ax he (EZ hK) (EX hK) (by kernel_rfl)) (Ao.up (FD hK) (by decide)) (NB hK) (A7 (Aw (A9 (i:=0) he rfl) (F8 hK)) Ae)) (A7 (Ar (Ax he (EZ hK) (EX hK) (by kernel_rfl)) (Ao.up (FD hK) (by decide)) (NB hK) (A7 (Aw (A9 (i:=0) he rfl) (EJ hK)) Ae)) (A7 (Ar (AQ he (G6 hK) (G1) (by kernel_rfl)) HA rfl (A7 (Aw (A9 (i:=0) he rfl) (Fz hK)) Ae)) Ae)))))) (Ab (B9 he rfl hnd (by kernel_rfl) (BH (Ak (A9 (i:=1) he rfl) (AX (A7 (Ar (AQ he (G6 hK) (G1) (by kernel_rfl)) HA rfl (A7 (Aw (A9 (i:=0) he rfl) (EQ hK)) Ae)) (A7 (Ar (Ax he (EZ hK) (EX hK) (by kernel_rfl)) (Ao.up (FD hK) (by decide)) (NB hK) (A7 (Aw (A9 (i:=0) he rfl) (F7 hK)) Ae)) (A7 (Ar (AQ he (G6 hK) (G1) (by kernel_rfl)) HA rfl (A7 (Aw (A9 (i:=0) he rfl) (HD hK)) Ae)) (A7 (Aw (A9 (i:=0) he rfl) (Jd hK)) Ae))))) AR))) (Ab (AK (Ar (AQ he (G6 hK) (G1) (by kernel_rfl)) HA rfl (A7 (BH (Ak (A9 (i:=1) he rfl) (AX (A7 (Ar (Ax he (EZ hK) (EX hK) (by kernel_rfl)) (Ao.up (FD hK) (by decide)) (NB hK) (A7 (Aw (A9 (i:=0) he rfl) (Jc hK)) Ae)) (A7 (Ar (Ax he (EZ hK) (EX hK) (by kernel_rfl)) (Ao.up (FD hK) (by decide)) (NB hK) (A7 (Aw (A9 (i:=0) he rfl) (Jb hK)) Ae)) (A7 (Ar (Ax he (EZ hK) (EX hK) (by kernel_rfl)) (Ao.up (FD hK) (by decide)) (NB hK) (A7 (Aw (A9 (i:=0) he rfl) (Mt hK)) Ae)) Ae)))) AR)) Ae))) Ah)))
theorem Ku:Ao G 3 (.ref 421) Fa:=Bj (Qw hK).v
theorem r_law:TopR G (.ref 967) (AT 1 13 Z3):=by
  apply A3u (lv:=9) [s!"script"] [s!"first",s!"funcs",s!"body",s!"module",s!"k",s!"x",s!"menu",s!"before",s!"texts",s!"counts",s!"rows",s!"flat",s!"row"] (by decide);rw [hK];rfl;rfl;rfl;rfl;rw [hK];kernel_rfl;exact F3 fun ξ=>rfl;kernel_rfl;decide +kernel;decide +kernel;intro L' he;have hnd:([s!"script"]++[s!"first",s!"funcs",s!"body",s!"module",s!"k",s!"x",s!"menu",s!"before",s!"texts",s!"counts",s!"rows",s!"flat",s!"row"]:List Str).Nodup:=by decide +kernel
  exact (Bu (Be (B9 he rfl hnd (by kernel_rfl) (Hy true (A9 (i:=0) he rfl) J9 (GD Aj)))) (Bu (Be (B9 he rfl hnd (by kernel_rfl) (De (AD (A9 (i:=0) he rfl) (AX Ae)) (Ar (AQ he (A2e hK) (A08) (by kernel_rfl)) A4E rfl (A7 (AC (A9 (i:=0) he rfl) Aj) Ae)) Aj))) (Bu (Be (A2Z he hnd ⟨⟨_,_,rfl,rfl,(.inr ⟨(by kernel_rfl),fun ξ ξ=>Sr⟩)⟩,⟨⟨_,_,rfl,rfl,(.inl (by kernel_rfl))⟩,⟨⟨_,_,rfl,rfl,(.inr ⟨(by kernel_rfl),fun ξ ξ=>Sr⟩)⟩,trivial⟩⟩⟩ (A7 (AX (A7 (Ak (A9 (i:=1) he rfl) Aj BS) (A7 Aj (A7 (Ak (Ak (A9 (i:=1) he rfl) Aj JE) Aj BS) (A7 Aj Ae))))) (A7 (Cb Ae) (A7 (Ar (Ax he (A0d hK) (ZE hK) (by kernel_rfl)) (Ao.up (A2R hK) (by decide)) (A6M hK) Ae) Ae))))) (Bu (Be (EO trivial (Nd (AQ he (Qj hK) (PA) (by kernel_rfl)) (Ar (AQ he (A7m hK) (A50) (by kernel_rfl)) V_max rfl (A7 Aj (A7 (Ar (AQ he (A7n hK) (A51) (by kernel_rfl)) V_min rfl (A7 Aj (A7 (Ak (Ar (AQ he (BO hK) (BM) (by kernel_rfl)) Cr rfl (A7 (A9 (i:=0) he rfl) Ae)) Aj Pb) Ae))) Ae)))) (EH he rfl hnd (by kernel_rfl)) (Ab (B9 he rfl hnd (by kernel_rfl) (Ar (AQ he (A2e hK) (A08) (by kernel_rfl)) A4E rfl (A7 (Ak (De (AD (Ak (A9 (i:=5) he rfl) Aj AR) (Ar (AQ he (BO hK) (BM) (by kernel_rfl)) Cr rfl (A7 (A9 (i:=0) he rfl) Ae))) (AC (A9 (i:=0) he rfl) (Ak (A9 (i:=5) he rfl) Aj AR)) Aj) (Ak Aj (A9 (i:=5) he rfl) Ys) AR) Ae))) (Ab (B9 he rfl hnd (by kernel_rfl) (Ar (Ax he (W6 hK) (VC hK) (by kernel_rfl)) (Ao.up (Y9 hK) (by decide)) (A7a hK) (A7 (Ak (A9 (i:=6) he rfl) Aj JE) Ae))) (Ab (BQ (AP (A9 (i:=3) he rfl) (A7 (AC (A9 (i:=7) he rfl) (Ak (A9 (i:=6) he rfl) Aj BS)) Ae) (Bs PySem.F.slot_list_append PySem.F.type_list_append JH))) Ah))))) (WN (Bu (Be (Bg (BH (Ar (AQ he (A4d hK) (A3D) (by kernel_rfl)) A5L rfl (A7 (Ax he (Fd hK) (Fc hK) (by kernel_rfl)) Ae))) (A9 (i:=4) he rfl) (Ji hK))) (Bu (Be (Bg (AX (A7 (BH (Ar (Ax he (A0b hK) (ZC hK) (by kernel_rfl)) (Ao.up (A2Q hK) (by decide)) (A6I hK) (A7 AG (A7 AG (A7 Aj (A7 (AC (A9 (i:=2) he rfl) Aj) Ae)))))) Ae)) (A9 (i:=4) he rfl) (HL hK))) (Bu (Be (Bg (AX (A7 (BH (Ar (Ax he (Un hK) (TQ hK) (by kernel_rfl)) (Ao.up (Y6 hK) (by decide)) (XB hK) (A7 Aj (A7 (AI (A7 (Gh Aj) (A7 (Gh Aj) Ae))) (A7 (BH (Ak (A9 (i:=3) he rfl) (AX (A7 (AI (A7 Aj Ae)) Ae)) AR)) Ae))))) (A7 (BH (Ar (Ax he (Un hK) (TQ hK) (by kernel_rfl)) (Ao.up (Y6 hK) (by decide)) (XB hK) (A7 (AC (A9 (i:=2) he rfl) Aj) (A7 (AI Ae) (A7 (AX (A7 (AI (A7 Aj Ae)) Ae)) Ae))))) (A7 (BH (Ar (Ax he (Un hK) (TQ hK) (by kernel_rfl)) (Ao.up (Y6 hK) (by decide)) (XB hK) (A7 Aj (A7 (AI Ae) (A7 (AX (A7 (AI (A7 Aj Ae)) Ae)) Ae))))) Ae)))) (A9 (i:=4) he rfl) (Jh hK))) (WN (Bu (Be (Hz (is:=[8,9]) (names:=[s!"before",s!"texts"]) he hnd ⟨⟨rfl,.inl (by kernel_rfl)⟩,⟨⟨rfl,.inl (by kernel_rfl)⟩,trivial⟩⟩ rfl (A7 (AP (A9 (i:=4) he rfl) Ae (Ba (AL.cons (Jf hK) (A1W hK) (Ao.up (Ku hK) (by decide)) AL.nil))) (A7 (BH (Dl (cl:=[(s!"module",L' + 2)]) he (CJ (A9 (i:=3) he rfl)) (fun ξ=>EP) (fun ξ=>(Ar (Ax (BK he rfl) (Kl hK) (K7 hK) (by kernel_rfl)) (Ao.up (Ly hK) (by decide)) (A6T hK) (A7 (A9 (i:=1) (BK he rfl) rfl) (A7 (A9 (i:=0) (BK he rfl) rfl) Ae)))) (YK (i:=4) rfl (by kernel_rfl) (by kernel_rfl) rfl) (by kernel_rfl) (by decide) rfl (by decide) (by kernel_rfl))) Ae)))) (Bu (Be (P9 (cl:=[(s!"funcs",L' + 1)]) he rfl hnd (by kernel_rfl) rfl (CJ (A9 (i:=3) he rfl)) (fun ξ=>EP) (fun ξ=>(Ar (Ax (BK he rfl) (RW hK) (RJ hK) (by kernel_rfl)) (Ao.up (US hK) (by decide)) (A7b hK) (A7 (A9 (i:=0) (BK he rfl) rfl) (A7 (A9 (i:=1) (BK he rfl) rfl) Ae)))) (YK (i:=2) rfl (by kernel_rfl) (by kernel_rfl) rfl) (by kernel_rfl) (by decide) rfl (by decide) (by kernel_rfl))) (WN (Bu (A4C (A0F (Sd (BI (AD (BH (Dl (cl:=[(s!"module",L' + 2)]) he (CJ (A9 (i:=3) he rfl)) (fun ξ=>EP) (fun ξ=>(Ar (Ax (BK he rfl) (MN hK) (MC hK) (by kernel_rfl)) (Ao.up (Ok hK) (by decide)) (A11 hK) (A7 (A9 (i:=1) (BK he rfl) rfl) (A7 (A9 (i:=0) (BK he rfl) rfl) Ae)))) (YK (i:=4) rfl (by kernel_rfl) (by kernel_rfl) rfl) (by kernel_rfl) (by decide) rfl (by decide) (by kernel_rfl))) (A9 (i:=10) he rfl))) (Sd (A2X (F4 (Ax he (Kj hK) (K5 hK) (by kernel_rfl)) (Ao.r (Ao.up (LJ hK) (by decide))) (A16 hK) (Ds (F4 (Ax he (OE hK) (Ow hK) (by kernel_rfl)) (RV.up (QR hK) (by decide)) (A68 hK) (Ds (BI (A9 (i:=4) he rfl)) EN)) EN)) (BI (A9 (i:=9) he rfl))) (BI H0)))) (Be (Ab (AK OP) Ah)) (Be Ah)) (Bu (A2W (is:=[11,12]) (names:=[s!"rows",s!"flat"]) he hnd ⟨⟨rfl,.inl (by kernel_rfl)⟩,⟨⟨rfl,.inl (by kernel_rfl)⟩,trivial⟩⟩ rfl (Ds (F4 (Ax he (Kj hK) (K5 hK) (by kernel_rfl)) (Ao.r (Ao.up (LJ hK) (by decide))) (A16 hK) (Ds (F4 (Ax he (Qm hK) (PY hK) (by kernel_rfl)) (RV.up (Sa hK) (by decide)) (A69 hK) (Ds (BI (A9 (i:=4) he rfl)) EN)) EN)) (Ds (BI (Cb Ae)) EN))) (Be (Ab (Bn (AD (A9 (i:=11) he rfl) (Ar (Ax he (RX hK) (RK hK) (by kernel_rfl)) (Ao.up (UT hK) (by decide)) (A7c hK) (A7 (A9 (i:=9) he rfl) (A7 (A9 (i:=10) he rfl) Ae)))) (Ab (AK OP) Ah) Ah) (Ab (EO trivial (CJ (A9 (i:=11) he rfl)) (EH he rfl hnd (by kernel_rfl)) (Ab (BQ (AP (A9 (i:=12) he rfl) (A7 (Ar (Ax he (W5 hK) (VB hK) (by kernel_rfl)) (Ao.up (Y8 hK) (by decide)) (A7d hK) (A7 (A9 (i:=13) he rfl) Ae)) Ae) (Bs PySem.F.slot_list_extend PySem.F.type_list_extend O4))) Ah)) (Ab (AK (UW (JD (KL (A9 (i:=12) he rfl) (A9 (i:=9) he rfl)) (O2 (KL (AP (A9 (i:=4) he rfl) Ae (Ba (AL.cons (Jf hK) (A1W hK) (Ao.up (Ku hK) (by decide)) AL.nil))) (A9 (i:=8) he rfl)))))) Ah))))))))))))))))))
end
theorem A1j {P:Params}{h:Heap}{Q:Addr→Obj→Prop}{vs:List Value}{l:List Int}(w:WellAll P h vs (ofPys (l.map .int))):Dns Q vs (l.map .int):=by
  induction l generalizing vs with
  | nil=>cases w;exact .nil
  | cons i l ih=>cases w with
    | cons a r=>cases a with
      | int _ t=>exact .cons (.int _ t) (ih r)
theorem A6h {P:Params}{h:Heap}{Q:Addr→Obj→Prop}{x:Addr}{l:List Int}(w:Well P h (.ref x) (ofPy (.list (l.map .int))))(hQ:∀ o,h.get? x=some o→Q x o):Dn Q (.ref x) (Co l):=by
  cases w with
  | list e r=>exact .lst (n:=0) (hQ _ e) (A1j r)
end
set_option tactic.hygienic true in
theorem fin2:PySem.Challenge.rw_nm0162_01.Holds:=by
  refine @fin (.mk ?_);intro q₀ loose XP YP d₀ kwd hIn hd hno w s₀ s₁ mg mb G Y a hmg hgens args vals as hpre hlay hrd hwl hlo;have KX:=hIn _ _ Y;have ha:mg (Str.ofString "law")=some (.ref 967):=mg_of KX G.T.g (by kernel_rfl);rw [hd,ha] at hmg;have e:a=967:=by cases hmg;rfl
  subst e;clear hmg
  wrow_args hpre hlay hrd hwl hlo
  rename_i l _ _ _ _ _ _ _ x _ _ _ _ wx _ _ _ hc _;have hl:l.length≤63:=by omega
  let gl:Gl:=⟨PySem.Challenge.rw_nm0162_01.row.prog,w,kk.heap_1 w.params,_,_,_,mg,mb,s₁.heap,KX,G.T,hno,rfl⟩;refine r_law (G:=gl) rfl s₁ [.d (Co l)] [.ref x] (fun a _=>a=.d (.bool true)) _ rfl (.cons (A6h wx fun o e=>.inr e) .nil) (law_t l hl _ fun _=>rfl) ?_;intro a σ' v h' tk c' q up r;subst q;cases r;refine ⟨.inl ⟨.bool true,.bool true,[],rfl,fun _=>rfl,?_,?_,fun _=>⟨.nil,nofun⟩⟩,.of_keep up,rfl,.of_eq hgens⟩
  · exact readsW_of_reads (d:=.bool true) (.bool true)
  · exact postW_of (r:=PySem.Challenge.rw_nm0162_01.row.toRowW) (X:=true) rfl (by show WTm.value _ (.eq .res (.lit (.bool true))) _=_;simp [WTm.value,PySem.W.same]) rfl
end Mine

theorem PySem.Challenge.cw_nm0162_01_holds : PySem.Challenge.rw_nm0162_01.Holds :=
  Mine.fin2
