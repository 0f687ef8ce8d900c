import PyProof.Rows.All
import Wide.All
import OpenK.AllK
import Wide.FinOn
import PySem.Challenge.RW_pf0067_01
open PySem PySem.W PyProof.Rows
set_option linter.all false
set_option Elab.async false
set_option maxRecDepth 100000
set_option genSizeOf false
set_option genInjectivity false
set_option bootstrap.genMatcherCode false
set_option genCtorIdx false
namespace Mine.Internal
theorem eS {G:Prop}(k:∀gG:Prop,(G→gG)→gG):G:=k G id
theorem aF {p0 p1:Prop}{G:Prop}(h:p0∧p1)(k:p0→p1→G):G:=k h.1 h.2
theorem eT {p0 p1 p2:Prop}{G:Prop}(h:p0∧p1∧p2)(k:p0→p1→p2→G):G:=k h.1 h.2.1 h.2.2
theorem uY {p0 p1 p2 p3:Prop}{G:Prop}(h:p0∧p1∧p2∧p3)(k:p0→p1→p2→p3→G):G:=k h.1 h.2.1 h.2.2.1 h.2.2.2
theorem TW {p0 p1 p2 p3 p4:Prop}{G:Prop}(h:p0∧p1∧p2∧p3∧p4)(k:p0→p1→p2→p3→p4→G):G:=k h.1 h.2.1 h.2.2.1 h.2.2.2.1 h.2.2.2.2
theorem aaV {p0 p1 p2 p3 p4 p5 p6 p7:Prop}{G:Prop}(h:p0∧p1∧p2∧p3∧p4∧p5∧p6∧p7)(k:p0→p1→p2→p3→p4→p5→p6→p7→G):G:=k h.1 h.2.1 h.2.2.1 h.2.2.2.1 h.2.2.2.2.1 h.2.2.2.2.2.1 h.2.2.2.2.2.2.1 h.2.2.2.2.2.2.2
theorem aR {α0:Type}{p0:α0→Prop}{G:Prop}(h:∃x0,p0 x0)(k:∀x0,p0 x0→G):G:=h.elim fun x0 h=>k x0 h
theorem aD {α0:Type}{p0 p1:α0→Prop}{G:Prop}(h:∃x0,p0 x0∧p1 x0)(k:∀x0,p0 x0→p1 x0→G):G:=h.elim fun x0 h=>k x0 h.1 h.2
theorem eM {α0:Type}{p0 p1 p2:α0→Prop}{G:Prop}(h:∃x0,p0 x0∧p1 x0∧p2 x0)(k:∀x0,p0 x0→p1 x0→p2 x0→G):G:=h.elim fun x0 h=>k x0 h.1 h.2.1 h.2.2
theorem TX {α0:Type}{p0 p1 p2 p3:α0→Prop}{G:Prop}(h:∃x0,p0 x0∧p1 x0∧p2 x0∧p3 x0)(k:∀x0,p0 x0→p1 x0→p2 x0→p3 x0→G):G:=h.elim fun x0 h=>k x0 h.1 h.2.1 h.2.2.1 h.2.2.2
theorem TY {α0:Type}{p0 p1 p2 p3 p4:α0→Prop}{G:Prop}(h:∃x0,p0 x0∧p1 x0∧p2 x0∧p3 x0∧p4 x0)(k:∀x0,p0 x0→p1 x0→p2 x0→p3 x0→p4 x0→G):G:=h.elim fun x0 h=>k x0 h.1 h.2.1 h.2.2.1 h.2.2.2.1 h.2.2.2.2
theorem bA {α0 α1:Type}{p0:α0→α1→Prop}{G:Prop}(h:∃x0 x1,p0 x0 x1)(k:∀x0 x1,p0 x0 x1→G):G:=h.elim fun x0 h=>h.elim fun x1 h=>k x0 x1 h
theorem cF {α0 α1:Type}{p0 p1:α0→α1→Prop}{G:Prop}(h:∃x0 x1,p0 x0 x1∧p1 x0 x1)(k:∀x0 x1,p0 x0 x1→p1 x0 x1→G):G:=h.elim fun x0 h=>h.elim fun x1 h=>k x0 x1 h.1 h.2
theorem bN {α0 α1:Type}{p0 p1 p2:α0→α1→Prop}{G:Prop}(h:∃x0 x1,p0 x0 x1∧p1 x0 x1∧p2 x0 x1)(k:∀x0 x1,p0 x0 x1→p1 x0 x1→p2 x0 x1→G):G:=h.elim fun x0 h=>h.elim fun x1 h=>k x0 x1 h.1 h.2.1 h.2.2
theorem FX {α0 α1:Type}{p0 p1 p2 p3:α0→α1→Prop}{G:Prop}(h:∃x0 x1,p0 x0 x1∧p1 x0 x1∧p2 x0 x1∧p3 x0 x1)(k:∀x0 x1,p0 x0 x1→p1 x0 x1→p2 x0 x1→p3 x0 x1→G):G:=h.elim fun x0 h=>h.elim fun x1 h=>k x0 x1 h.1 h.2.1 h.2.2.1 h.2.2.2
theorem iY {α0 α1:Type}{p0 p1 p2 p3 p4:α0→α1→Prop}{G:Prop}(h:∃x0 x1,p0 x0 x1∧p1 x0 x1∧p2 x0 x1∧p3 x0 x1∧p4 x0 x1)(k:∀x0 x1,p0 x0 x1→p1 x0 x1→p2 x0 x1→p3 x0 x1→p4 x0 x1→G):G:=h.elim fun x0 h=>h.elim fun x1 h=>k x0 x1 h.1 h.2.1 h.2.2.1 h.2.2.2.1 h.2.2.2.2
theorem FY {α0 α1:Type}{p0 p1 p2 p3 p4 p5:α0→α1→Prop}{G:Prop}(h:∃x0 x1,p0 x0 x1∧p1 x0 x1∧p2 x0 x1∧p3 x0 x1∧p4 x0 x1∧p5 x0 x1)(k:∀x0 x1,p0 x0 x1→p1 x0 x1→p2 x0 x1→p3 x0 x1→p4 x0 x1→p5 x0 x1→G):G:=h.elim fun x0 h=>h.elim fun x1 h=>k x0 x1 h.1 h.2.1 h.2.2.1 h.2.2.2.1 h.2.2.2.2.1 h.2.2.2.2.2
theorem aaW {α0 α1:Type}{p0 p1 p2 p3 p4 p5 p6 p7:α0→α1→Prop}{G:Prop}(h:∃x0 x1,p0 x0 x1∧p1 x0 x1∧p2 x0 x1∧p3 x0 x1∧p4 x0 x1∧p5 x0 x1∧p6 x0 x1∧p7 x0 x1)(k:∀x0 x1,p0 x0 x1→p1 x0 x1→p2 x0 x1→p3 x0 x1→p4 x0 x1→p5 x0 x1→p6 x0 x1→p7 x0 x1→G):G:=h.elim fun x0 h=>h.elim fun x1 h=>k x0 x1 h.1 h.2.1 h.2.2.1 h.2.2.2.1 h.2.2.2.2.1 h.2.2.2.2.2.1 h.2.2.2.2.2.2.1 h.2.2.2.2.2.2.2
theorem jX {α0 α1 α2:Type}{p0:α0→α1→α2→Prop}{G:Prop}(h:∃x0 x1 x2,p0 x0 x1 x2)(k:∀x0 x1 x2,p0 x0 x1 x2→G):G:=h.elim fun x0 h=>h.elim fun x1 h=>h.elim fun x2 h=>k x0 x1 x2 h
theorem iZ {α0 α1 α2:Type}{p0 p1:α0→α1→α2→Prop}{G:Prop}(h:∃x0 x1 x2,p0 x0 x1 x2∧p1 x0 x1 x2)(k:∀x0 x1 x2,p0 x0 x1 x2→p1 x0 x1 x2→G):G:=h.elim fun x0 h=>h.elim fun x1 h=>h.elim fun x2 h=>k x0 x1 x2 h.1 h.2
theorem dA {α0 α1 α2:Type}{p0 p1 p2:α0→α1→α2→Prop}{G:Prop}(h:∃x0 x1 x2,p0 x0 x1 x2∧p1 x0 x1 x2∧p2 x0 x1 x2)(k:∀x0 x1 x2,p0 x0 x1 x2→p1 x0 x1 x2→p2 x0 x1 x2→G):G:=h.elim fun x0 h=>h.elim fun x1 h=>h.elim fun x2 h=>k x0 x1 x2 h.1 h.2.1 h.2.2
theorem oO {α0 α1 α2:Type}{p0 p1 p2 p3:α0→α1→α2→Prop}{G:Prop}(h:∃x0 x1 x2,p0 x0 x1 x2∧p1 x0 x1 x2∧p2 x0 x1 x2∧p3 x0 x1 x2)(k:∀x0 x1 x2,p0 x0 x1 x2→p1 x0 x1 x2→p2 x0 x1 x2→p3 x0 x1 x2→G):G:=h.elim fun x0 h=>h.elim fun x1 h=>h.elim fun x2 h=>k x0 x1 x2 h.1 h.2.1 h.2.2.1 h.2.2.2
theorem oP {α0 α1 α2:Type}{p0 p1 p2 p3 p4:α0→α1→α2→Prop}{G:Prop}(h:∃x0 x1 x2,p0 x0 x1 x2∧p1 x0 x1 x2∧p2 x0 x1 x2∧p3 x0 x1 x2∧p4 x0 x1 x2)(k:∀x0 x1 x2,p0 x0 x1 x2→p1 x0 x1 x2→p2 x0 x1 x2→p3 x0 x1 x2→p4 x0 x1 x2→G):G:=h.elim fun x0 h=>h.elim fun x1 h=>h.elim fun x2 h=>k x0 x1 x2 h.1 h.2.1 h.2.2.1 h.2.2.2.1 h.2.2.2.2
theorem TZ {α0 α1 α2:Type}{p0 p1 p2 p3 p4 p5:α0→α1→α2→Prop}{G:Prop}(h:∃x0 x1 x2,p0 x0 x1 x2∧p1 x0 x1 x2∧p2 x0 x1 x2∧p3 x0 x1 x2∧p4 x0 x1 x2∧p5 x0 x1 x2)(k:∀x0 x1 x2,p0 x0 x1 x2→p1 x0 x1 x2→p2 x0 x1 x2→p3 x0 x1 x2→p4 x0 x1 x2→p5 x0 x1 x2→G):G:=h.elim fun x0 h=>h.elim fun x1 h=>h.elim fun x2 h=>k x0 x1 x2 h.1 h.2.1 h.2.2.1 h.2.2.2.1 h.2.2.2.2.1 h.2.2.2.2.2
theorem aaX {α0 α1 α2:Type}{p0 p1 p2 p3 p4 p5 p6:α0→α1→α2→Prop}{G:Prop}(h:∃x0 x1 x2,p0 x0 x1 x2∧p1 x0 x1 x2∧p2 x0 x1 x2∧p3 x0 x1 x2∧p4 x0 x1 x2∧p5 x0 x1 x2∧p6 x0 x1 x2)(k:∀x0 x1 x2,p0 x0 x1 x2→p1 x0 x1 x2→p2 x0 x1 x2→p3 x0 x1 x2→p4 x0 x1 x2→p5 x0 x1 x2→p6 x0 x1 x2→G):G:=h.elim fun x0 h=>h.elim fun x1 h=>h.elim fun x2 h=>k x0 x1 x2 h.1 h.2.1 h.2.2.1 h.2.2.2.1 h.2.2.2.2.1 h.2.2.2.2.2.1 h.2.2.2.2.2.2
theorem FZ {α0 α1 α2 α3:Type}{p0:α0→α1→α2→α3→Prop}{G:Prop}(h:∃x0 x1 x2 x3,p0 x0 x1 x2 x3)(k:∀x0 x1 x2 x3,p0 x0 x1 x2 x3→G):G:=h.elim fun x0 h=>h.elim fun x1 h=>h.elim fun x2 h=>h.elim fun x3 h=>k x0 x1 x2 x3 h
theorem aaY {α0 α1 α2 α3:Type}{p0 p1:α0→α1→α2→α3→Prop}{G:Prop}(h:∃x0 x1 x2 x3,p0 x0 x1 x2 x3∧p1 x0 x1 x2 x3)(k:∀x0 x1 x2 x3,p0 x0 x1 x2 x3→p1 x0 x1 x2 x3→G):G:=h.elim fun x0 h=>h.elim fun x1 h=>h.elim fun x2 h=>h.elim fun x3 h=>k x0 x1 x2 x3 h.1 h.2
theorem GA {α0 α1 α2 α3:Type}{p0 p1 p2:α0→α1→α2→α3→Prop}{G:Prop}(h:∃x0 x1 x2 x3,p0 x0 x1 x2 x3∧p1 x0 x1 x2 x3∧p2 x0 x1 x2 x3)(k:∀x0 x1 x2 x3,p0 x0 x1 x2 x3→p1 x0 x1 x2 x3→p2 x0 x1 x2 x3→G):G:=h.elim fun x0 h=>h.elim fun x1 h=>h.elim fun x2 h=>h.elim fun x3 h=>k x0 x1 x2 x3 h.1 h.2.1 h.2.2
theorem uZ {α0 α1 α2 α3:Type}{p0 p1 p2 p3:α0→α1→α2→α3→Prop}{G:Prop}(h:∃x0 x1 x2 x3,p0 x0 x1 x2 x3∧p1 x0 x1 x2 x3∧p2 x0 x1 x2 x3∧p3 x0 x1 x2 x3)(k:∀x0 x1 x2 x3,p0 x0 x1 x2 x3→p1 x0 x1 x2 x3→p2 x0 x1 x2 x3→p3 x0 x1 x2 x3→G):G:=h.elim fun x0 h=>h.elim fun x1 h=>h.elim fun x2 h=>h.elim fun x3 h=>k x0 x1 x2 x3 h.1 h.2.1 h.2.2.1 h.2.2.2
theorem mY {α0 α1 α2 α3:Type}{p0 p1 p2 p3 p4:α0→α1→α2→α3→Prop}{G:Prop}(h:∃x0 x1 x2 x3,p0 x0 x1 x2 x3∧p1 x0 x1 x2 x3∧p2 x0 x1 x2 x3∧p3 x0 x1 x2 x3∧p4 x0 x1 x2 x3)(k:∀x0 x1 x2 x3,p0 x0 x1 x2 x3→p1 x0 x1 x2 x3→p2 x0 x1 x2 x3→p3 x0 x1 x2 x3→p4 x0 x1 x2 x3→G):G:=h.elim fun x0 h=>h.elim fun x1 h=>h.elim fun x2 h=>h.elim fun x3 h=>k x0 x1 x2 x3 h.1 h.2.1 h.2.2.1 h.2.2.2.1 h.2.2.2.2
theorem GB {α0 α1 α2 α3:Type}{p0 p1 p2 p3 p4 p5 p6:α0→α1→α2→α3→Prop}{G:Prop}(h:∃x0 x1 x2 x3,p0 x0 x1 x2 x3∧p1 x0 x1 x2 x3∧p2 x0 x1 x2 x3∧p3 x0 x1 x2 x3∧p4 x0 x1 x2 x3∧p5 x0 x1 x2 x3∧p6 x0 x1 x2 x3)(k:∀x0 x1 x2 x3,p0 x0 x1 x2 x3→p1 x0 x1 x2 x3→p2 x0 x1 x2 x3→p3 x0 x1 x2 x3→p4 x0 x1 x2 x3→p5 x0 x1 x2 x3→p6 x0 x1 x2 x3→G):G:=h.elim fun x0 h=>h.elim fun x1 h=>h.elim fun x2 h=>h.elim fun x3 h=>k x0 x1 x2 x3 h.1 h.2.1 h.2.2.1 h.2.2.2.1 h.2.2.2.2.1 h.2.2.2.2.2.1 h.2.2.2.2.2.2
theorem aaZ {α0 α1 α2 α3 α4:Type}{p0:α0→α1→α2→α3→α4→Prop}{G:Prop}(h:∃x0 x1 x2 x3 x4,p0 x0 x1 x2 x3 x4)(k:∀x0 x1 x2 x3 x4,p0 x0 x1 x2 x3 x4→G):G:=h.elim fun x0 h=>h.elim fun x1 h=>h.elim fun x2 h=>h.elim fun x3 h=>h.elim fun x4 h=>k x0 x1 x2 x3 x4 h
theorem aa0 {α0 α1 α2 α3 α4:Type}{p0 p1 p2:α0→α1→α2→α3→α4→Prop}{G:Prop}(h:∃x0 x1 x2 x3 x4,p0 x0 x1 x2 x3 x4∧p1 x0 x1 x2 x3 x4∧p2 x0 x1 x2 x3 x4)(k:∀x0 x1 x2 x3 x4,p0 x0 x1 x2 x3 x4→p1 x0 x1 x2 x3 x4→p2 x0 x1 x2 x3 x4→G):G:=h.elim fun x0 h=>h.elim fun x1 h=>h.elim fun x2 h=>h.elim fun x3 h=>h.elim fun x4 h=>k x0 x1 x2 x3 x4 h.1 h.2.1 h.2.2
theorem aa1 {α0 α1 α2 α3 α4:Type}{p0 p1 p2 p3:α0→α1→α2→α3→α4→Prop}{G:Prop}(h:∃x0 x1 x2 x3 x4,p0 x0 x1 x2 x3 x4∧p1 x0 x1 x2 x3 x4∧p2 x0 x1 x2 x3 x4∧p3 x0 x1 x2 x3 x4)(k:∀x0 x1 x2 x3 x4,p0 x0 x1 x2 x3 x4→p1 x0 x1 x2 x3 x4→p2 x0 x1 x2 x3 x4→p3 x0 x1 x2 x3 x4→G):G:=h.elim fun x0 h=>h.elim fun x1 h=>h.elim fun x2 h=>h.elim fun x3 h=>h.elim fun x4 h=>k x0 x1 x2 x3 x4 h.1 h.2.1 h.2.2.1 h.2.2.2
theorem aa2 {α0 α1 α2 α3 α4:Type}{p0 p1 p2 p3 p4:α0→α1→α2→α3→α4→Prop}{G:Prop}(h:∃x0 x1 x2 x3 x4,p0 x0 x1 x2 x3 x4∧p1 x0 x1 x2 x3 x4∧p2 x0 x1 x2 x3 x4∧p3 x0 x1 x2 x3 x4∧p4 x0 x1 x2 x3 x4)(k:∀x0 x1 x2 x3 x4,p0 x0 x1 x2 x3 x4→p1 x0 x1 x2 x3 x4→p2 x0 x1 x2 x3 x4→p3 x0 x1 x2 x3 x4→p4 x0 x1 x2 x3 x4→G):G:=h.elim fun x0 h=>h.elim fun x1 h=>h.elim fun x2 h=>h.elim fun x3 h=>h.elim fun x4 h=>k x0 x1 x2 x3 x4 h.1 h.2.1 h.2.2.1 h.2.2.2.1 h.2.2.2.2
theorem xH {α0 α1 α2 α3 α4:Type}{p0 p1 p2 p3 p4 p5 p6 p7 p8 p9:α0→α1→α2→α3→α4→Prop}{G:Prop}(h:∃x0 x1 x2 x3 x4,p0 x0 x1 x2 x3 x4∧p1 x0 x1 x2 x3 x4∧p2 x0 x1 x2 x3 x4∧p3 x0 x1 x2 x3 x4∧p4 x0 x1 x2 x3 x4∧p5 x0 x1 x2 x3 x4∧p6 x0 x1 x2 x3 x4∧p7 x0 x1 x2 x3 x4∧p8 x0 x1 x2 x3 x4∧p9 x0 x1 x2 x3 x4)(k:∀x0 x1 x2 x3 x4,p0 x0 x1 x2 x3 x4→p1 x0 x1 x2 x3 x4→p2 x0 x1 x2 x3 x4→p3 x0 x1 x2 x3 x4→p4 x0 x1 x2 x3 x4→p5 x0 x1 x2 x3 x4→p6 x0 x1 x2 x3 x4→p7 x0 x1 x2 x3 x4→p8 x0 x1 x2 x3 x4→p9 x0 x1 x2 x3 x4→G):G:=h.elim fun x0 h=>h.elim fun x1 h=>h.elim fun x2 h=>h.elim fun x3 h=>h.elim fun x4 h=>k x0 x1 x2 x3 x4 h.1 h.2.1 h.2.2.1 h.2.2.2.1 h.2.2.2.2.1 h.2.2.2.2.2.1 h.2.2.2.2.2.2.1 h.2.2.2.2.2.2.2.1 h.2.2.2.2.2.2.2.2.1 h.2.2.2.2.2.2.2.2.2
theorem aa3 {α0 α1 α2 α3 α4 α5:Type}{p0 p1 p2 p3:α0→α1→α2→α3→α4→α5→Prop}{G:Prop}(h:∃x0 x1 x2 x3 x4 x5,p0 x0 x1 x2 x3 x4 x5∧p1 x0 x1 x2 x3 x4 x5∧p2 x0 x1 x2 x3 x4 x5∧p3 x0 x1 x2 x3 x4 x5)(k:∀x0 x1 x2 x3 x4 x5,p0 x0 x1 x2 x3 x4 x5→p1 x0 x1 x2 x3 x4 x5→p2 x0 x1 x2 x3 x4 x5→p3 x0 x1 x2 x3 x4 x5→G):G:=h.elim fun x0 h=>h.elim fun x1 h=>h.elim fun x2 h=>h.elim fun x3 h=>h.elim fun x4 h=>h.elim fun x5 h=>k x0 x1 x2 x3 x4 x5 h.1 h.2.1 h.2.2.1 h.2.2.2
theorem UA {α0 α1 α2 α3 α4 α5 α6:Type}{p0 p1 p2 p3 p4:α0→α1→α2→α3→α4→α5→α6→Prop}{G:Prop}(h:∃x0 x1 x2 x3 x4 x5 x6,p0 x0 x1 x2 x3 x4 x5 x6∧p1 x0 x1 x2 x3 x4 x5 x6∧p2 x0 x1 x2 x3 x4 x5 x6∧p3 x0 x1 x2 x3 x4 x5 x6∧p4 x0 x1 x2 x3 x4 x5 x6)(k:∀x0 x1 x2 x3 x4 x5 x6,p0 x0 x1 x2 x3 x4 x5 x6→p1 x0 x1 x2 x3 x4 x5 x6→p2 x0 x1 x2 x3 x4 x5 x6→p3 x0 x1 x2 x3 x4 x5 x6→p4 x0 x1 x2 x3 x4 x5 x6→G):G:=h.elim fun x0 h=>h.elim fun x1 h=>h.elim fun x2 h=>h.elim fun x3 h=>h.elim fun x4 h=>h.elim fun x5 h=>h.elim fun x6 h=>k x0 x1 x2 x3 x4 x5 x6 h.1 h.2.1 h.2.2.1 h.2.2.2.1 h.2.2.2.2
theorem aa4 {α0 α1 α2 α3 α4 α5 α6 α7 α8:Type}{p0:α0→α1→α2→α3→α4→α5→α6→α7→α8→Prop}{G:Prop}(h:∃x0 x1 x2 x3 x4 x5 x6 x7 x8,p0 x0 x1 x2 x3 x4 x5 x6 x7 x8)(k:∀x0 x1 x2 x3 x4 x5 x6 x7 x8,p0 x0 x1 x2 x3 x4 x5 x6 x7 x8→G):G:=h.elim fun x0 h=>h.elim fun x1 h=>h.elim fun x2 h=>h.elim fun x3 h=>h.elim fun x4 h=>h.elim fun x5 h=>h.elim fun x6 h=>h.elim fun x7 h=>h.elim fun x8 h=>k x0 x1 x2 x3 x4 x5 x6 x7 x8 h
theorem aa5 {α0 α1 α2 α3 α4 α5 α6 α7 α8:Type}{p0 p1:α0→α1→α2→α3→α4→α5→α6→α7→α8→Prop}{G:Prop}(h:∃x0 x1 x2 x3 x4 x5 x6 x7 x8,p0 x0 x1 x2 x3 x4 x5 x6 x7 x8∧p1 x0 x1 x2 x3 x4 x5 x6 x7 x8)(k:∀x0 x1 x2 x3 x4 x5 x6 x7 x8,p0 x0 x1 x2 x3 x4 x5 x6 x7 x8→p1 x0 x1 x2 x3 x4 x5 x6 x7 x8→G):G:=h.elim fun x0 h=>h.elim fun x1 h=>h.elim fun x2 h=>h.elim fun x3 h=>h.elim fun x4 h=>h.elim fun x5 h=>h.elim fun x6 h=>h.elim fun x7 h=>h.elim fun x8 h=>k x0 x1 x2 x3 x4 x5 x6 x7 x8 h.1 h.2
theorem VR {α0 α1 α2 α3 α4 α5 α6 α7 α8 α9:Type}{p0 p1 p2 p3 p4 p5:α0→α1→α2→α3→α4→α5→α6→α7→α8→α9→Prop}{G:Prop}(h:∃x0 x1 x2 x3 x4 x5 x6 x7 x8 x9,p0 x0 x1 x2 x3 x4 x5 x6 x7 x8 x9∧p1 x0 x1 x2 x3 x4 x5 x6 x7 x8 x9∧p2 x0 x1 x2 x3 x4 x5 x6 x7 x8 x9∧p3 x0 x1 x2 x3 x4 x5 x6 x7 x8 x9∧p4 x0 x1 x2 x3 x4 x5 x6 x7 x8 x9∧p5 x0 x1 x2 x3 x4 x5 x6 x7 x8 x9)(k:∀x0 x1 x2 x3 x4 x5 x6 x7 x8 x9,p0 x0 x1 x2 x3 x4 x5 x6 x7 x8 x9→p1 x0 x1 x2 x3 x4 x5 x6 x7 x8 x9→p2 x0 x1 x2 x3 x4 x5 x6 x7 x8 x9→p3 x0 x1 x2 x3 x4 x5 x6 x7 x8 x9→p4 x0 x1 x2 x3 x4 x5 x6 x7 x8 x9→p5 x0 x1 x2 x3 x4 x5 x6 x7 x8 x9→G):G:=h.elim fun x0 h=>h.elim fun x1 h=>h.elim fun x2 h=>h.elim fun x3 h=>h.elim fun x4 h=>h.elim fun x5 h=>h.elim fun x6 h=>h.elim fun x7 h=>h.elim fun x8 h=>h.elim fun x9 h=>k x0 x1 x2 x3 x4 x5 x6 x7 x8 x9 h.1 h.2.1 h.2.2.1 h.2.2.2.1 h.2.2.2.2.1 h.2.2.2.2.2
theorem VS {α0 α1 α2 α3 α4 α5 α6 α7 α8 α9 α10:Type}{p0 p1:α0→α1→α2→α3→α4→α5→α6→α7→α8→α9→α10→Prop}{G:Prop}(h:∃x0 x1 x2 x3 x4 x5 x6 x7 x8 x9 x10,p0 x0 x1 x2 x3 x4 x5 x6 x7 x8 x9 x10∧p1 x0 x1 x2 x3 x4 x5 x6 x7 x8 x9 x10)(k:∀x0 x1 x2 x3 x4 x5 x6 x7 x8 x9 x10,p0 x0 x1 x2 x3 x4 x5 x6 x7 x8 x9 x10→p1 x0 x1 x2 x3 x4 x5 x6 x7 x8 x9 x10→G):G:=h.elim fun x0 h=>h.elim fun x1 h=>h.elim fun x2 h=>h.elim fun x3 h=>h.elim fun x4 h=>h.elim fun x5 h=>h.elim fun x6 h=>h.elim fun x7 h=>h.elim fun x8 h=>h.elim fun x9 h=>h.elim fun x10 h=>k x0 x1 x2 x3 x4 x5 x6 x7 x8 x9 x10 h.1 h.2
theorem VT {α0 α1 α2 α3 α4 α5 α6 α7 α8 α9 α10 α11:Type}{p0 p1:α0→α1→α2→α3→α4→α5→α6→α7→α8→α9→α10→α11→Prop}{G:Prop}(h:∃x0 x1 x2 x3 x4 x5 x6 x7 x8 x9 x10 x11,p0 x0 x1 x2 x3 x4 x5 x6 x7 x8 x9 x10 x11∧p1 x0 x1 x2 x3 x4 x5 x6 x7 x8 x9 x10 x11)(k:∀x0 x1 x2 x3 x4 x5 x6 x7 x8 x9 x10 x11,p0 x0 x1 x2 x3 x4 x5 x6 x7 x8 x9 x10 x11→p1 x0 x1 x2 x3 x4 x5 x6 x7 x8 x9 x10 x11→G):G:=h.elim fun x0 h=>h.elim fun x1 h=>h.elim fun x2 h=>h.elim fun x3 h=>h.elim fun x4 h=>h.elim fun x5 h=>h.elim fun x6 h=>h.elim fun x7 h=>h.elim fun x8 h=>h.elim fun x9 h=>h.elim fun x10 h=>h.elim fun x11 h=>k x0 x1 x2 x3 x4 x5 x6 x7 x8 x9 x10 x11 h.1 h.2
theorem sO {α0 α1 α2 α3 α4 α5 α6 α7 α8 α9 α10 α11 α12:Type}{p0:α0→α1→α2→α3→α4→α5→α6→α7→α8→α9→α10→α11→α12→Prop}{G:Prop}(h:∃x0 x1 x2 x3 x4 x5 x6 x7 x8 x9 x10 x11 x12,p0 x0 x1 x2 x3 x4 x5 x6 x7 x8 x9 x10 x11 x12)(k:∀x0 x1 x2 x3 x4 x5 x6 x7 x8 x9 x10 x11 x12,p0 x0 x1 x2 x3 x4 x5 x6 x7 x8 x9 x10 x11 x12→G):G:=h.elim fun x0 h=>h.elim fun x1 h=>h.elim fun x2 h=>h.elim fun x3 h=>h.elim fun x4 h=>h.elim fun x5 h=>h.elim fun x6 h=>h.elim fun x7 h=>h.elim fun x8 h=>h.elim fun x9 h=>h.elim fun x10 h=>h.elim fun x11 h=>h.elim fun x12 h=>k x0 x1 x2 x3 x4 x5 x6 x7 x8 x9 x10 x11 x12 h
theorem bM {α0 α1:Type}{p:α0→α1→Prop}(x0:α0)(x1:α1)(h:p x0 x1):∃x0 x1,p x0 x1:=⟨x0,x1,h⟩
theorem gE {α0 α1 α2:Type}{p:α0→α1→α2→Prop}(x0:α0)(x1:α1)(x2:α2)(h:p x0 x1 x2):∃x0 x1 x2,p x0 x1 x2:=⟨x0,x1,x2,h⟩
theorem zZ {α0 α1 α2 α3:Type}{p:α0→α1→α2→α3→Prop}(x0:α0)(x1:α1)(x2:α2)(x3:α3)(h:p x0 x1 x2 x3):∃x0 x1 x2 x3,p x0 x1 x2 x3:=⟨x0,x1,x2,x3,h⟩
theorem ei5 {α0 α1 α2 α3 α4:Type}{p:α0→α1→α2→α3→α4→Prop}(x0:α0)(x1:α1)(x2:α2)(x3:α3)(x4:α4)(h:p x0 x1 x2 x3 x4):∃x0 x1 x2 x3 x4,p x0 x1 x2 x3 x4:=⟨x0,x1,x2,x3,x4,h⟩
theorem ei6 {α0 α1 α2 α3 α4 α5:Type}{p:α0→α1→α2→α3→α4→α5→Prop}(x0:α0)(x1:α1)(x2:α2)(x3:α3)(x4:α4)(x5:α5)(h:p x0 x1 x2 x3 x4 x5):∃x0 x1 x2 x3 x4 x5,p x0 x1 x2 x3 x4 x5:=⟨x0,x1,x2,x3,x4,x5,h⟩
theorem ei7 {α0 α1 α2 α3 α4 α5 α6:Type}{p:α0→α1→α2→α3→α4→α5→α6→Prop}(x0:α0)(x1:α1)(x2:α2)(x3:α3)(x4:α4)(x5:α5)(x6:α6)(h:p x0 x1 x2 x3 x4 x5 x6):∃x0 x1 x2 x3 x4 x5 x6,p x0 x1 x2 x3 x4 x5 x6:=⟨x0,x1,x2,x3,x4,x5,x6,h⟩
theorem ei8 {α0 α1 α2 α3 α4 α5 α6 α7:Type}{p:α0→α1→α2→α3→α4→α5→α6→α7→Prop}(x0:α0)(x1:α1)(x2:α2)(x3:α3)(x4:α4)(x5:α5)(x6:α6)(x7:α7)(h:p x0 x1 x2 x3 x4 x5 x6 x7):∃x0 x1 x2 x3 x4 x5 x6 x7,p x0 x1 x2 x3 x4 x5 x6 x7:=⟨x0,x1,x2,x3,x4,x5,x6,x7,h⟩
theorem ei9 {α0 α1 α2 α3 α4 α5 α6 α7 α8:Type}{p:α0→α1→α2→α3→α4→α5→α6→α7→α8→Prop}(x0:α0)(x1:α1)(x2:α2)(x3:α3)(x4:α4)(x5:α5)(x6:α6)(x7:α7)(x8:α8)(h:p x0 x1 x2 x3 x4 x5 x6 x7 x8):∃x0 x1 x2 x3 x4 x5 x6 x7 x8,p x0 x1 x2 x3 x4 x5 x6 x7 x8:=⟨x0,x1,x2,x3,x4,x5,x6,x7,x8,h⟩
theorem akK {α0 α1 α2 α3 α4 α5 α6 α7 α8 α9:Type}{p:α0→α1→α2→α3→α4→α5→α6→α7→α8→α9→Prop}(x0:α0)(x1:α1)(x2:α2)(x3:α3)(x4:α4)(x5:α5)(x6:α6)(x7:α7)(x8:α8)(x9:α9)(h:p x0 x1 x2 x3 x4 x5 x6 x7 x8 x9):∃x0 x1 x2 x3 x4 x5 x6 x7 x8 x9,p x0 x1 x2 x3 x4 x5 x6 x7 x8 x9:=⟨x0,x1,x2,x3,x4,x5,x6,x7,x8,x9,h⟩
theorem akL {α0 α1 α2 α3 α4 α5 α6 α7 α8 α9 α10:Type}{p:α0→α1→α2→α3→α4→α5→α6→α7→α8→α9→α10→Prop}(x0:α0)(x1:α1)(x2:α2)(x3:α3)(x4:α4)(x5:α5)(x6:α6)(x7:α7)(x8:α8)(x9:α9)(x10:α10)(h:p x0 x1 x2 x3 x4 x5 x6 x7 x8 x9 x10):∃x0 x1 x2 x3 x4 x5 x6 x7 x8 x9 x10,p x0 x1 x2 x3 x4 x5 x6 x7 x8 x9 x10:=⟨x0,x1,x2,x3,x4,x5,x6,x7,x8,x9,x10,h⟩
theorem aa7 {α0 α1 α2 α3 α4 α5 α6 α7 α8 α9 α10 α11:Type}{p:α0→α1→α2→α3→α4→α5→α6→α7→α8→α9→α10→α11→Prop}(x0:α0)(x1:α1)(x2:α2)(x3:α3)(x4:α4)(x5:α5)(x6:α6)(x7:α7)(x8:α8)(x9:α9)(x10:α10)(x11:α11)(h:p x0 x1 x2 x3 x4 x5 x6 x7 x8 x9 x10 x11):∃x0 x1 x2 x3 x4 x5 x6 x7 x8 x9 x10 x11,p x0 x1 x2 x3 x4 x5 x6 x7 x8 x9 x10 x11:=⟨x0,x1,x2,x3,x4,x5,x6,x7,x8,x9,x10,x11,h⟩
theorem akM {α0 α1 α2 α3 α4 α5 α6 α7 α8 α9 α10 α11 α12:Type}{p:α0→α1→α2→α3→α4→α5→α6→α7→α8→α9→α10→α11→α12→Prop}(x0:α0)(x1:α1)(x2:α2)(x3:α3)(x4:α4)(x5:α5)(x6:α6)(x7:α7)(x8:α8)(x9:α9)(x10:α10)(x11:α11)(x12:α12)(h:p x0 x1 x2 x3 x4 x5 x6 x7 x8 x9 x10 x11 x12):∃x0 x1 x2 x3 x4 x5 x6 x7 x8 x9 x10 x11 x12,p x0 x1 x2 x3 x4 x5 x6 x7 x8 x9 x10 x11 x12:=⟨x0,x1,x2,x3,x4,x5,x6,x7,x8,x9,x10,x11,x12,h⟩
end Mine.Internal
set_option genInjectivity true
namespace Mine.Internal
set_option genCtorIdx true in
inductive V where
 |none
 |bool (b:Bool)
 |int (i:Int)
 |str (n:Nat)
 |tup (l:List V)
 |lst (l:List V)
 |dct (l:List (V×V))
noncomputable instance:DecidableEq V:=fun _ _=>Classical.propDecidable _
noncomputable def nms:List Str:=["num", "sym", "sum", "prod", "pow", "call", "exp", "log", "sqrt", "sin", "cos", "tan", "atan", "abs", "factorial", "eq", "list",
 "x", "y", "n", "inf", "minf", "und", "-inf", "domain", "limit", "division by zero"]
noncomputable def nm (n:Nat):Str:=nms.getD n ""
abbrev Gh:=Addr→Obj→Prop
mutual
noncomputable def V.py:V→PyData
 |.int i=>.int i
 |.str n=>.str (nm n)
 |.tup l=>.tuple (V.pys l)
 |_=>.none
noncomputable def V.pys:List V→List PyData
 |[]=>[]
 |v::r=>V.py v::V.pys r
end
mutual
noncomputable def qZ (P:Params):V→Int
 |.int i=>reduceHash (intHash i)
 |.str n=>PyData.keyHash P (nm n)
 |.tup l=>reduceHash (Builtin.Tuple.tupleHashOf (kG P l))
 |_=>0
noncomputable def kG (P:Params):List V→List Int
 |[]=>[]
 |v::r=>qZ P v::kG P r
end
mutual
noncomputable def V.draws:V→Nat
 |.tup l=>V.drawss l+1
 |_=>1
noncomputable def V.drawss:List V→Nat
 |[]=>0
 |x::r=>V.draws x+V.drawss r
end
noncomputable def oQ (f:V→Bool)(l:List V):Bool:=List.rec (motive:=fun _=>Bool) true (fun x _ ih=>cond (f x) ih false) l
noncomputable def gI (n:Nat):V→Bool:=Nat.rec (motive:=fun _=>V→Bool) (fun v=>match v with
  |.int _=>true
  |.str m=>Nat.blt m 27
  |_=>false) (fun _ ih v=>match v with
  |.int _=>true
  |.str m=>Nat.blt m 27
  |.tup l=>oQ ih l
  |_=>false) n
noncomputable def cC (v:V):Bool:=match v with
 |.tup l=>oQ (gI 6) l
 |_=>false
theorem jP {f:V→Bool}{x:V}{l:List V}(h:oQ f (x::l)=true):f x=true∧oQ f l=true:=by
 have h:cond (f x) (oQ f l) false=true:=h
 cases e:f x with
 |true=>rw [e] at h;exact ⟨rfl,h⟩
 |false=>rw [e] at h;cases h
theorem gV {M:Nat→V→Prop}(hi:∀k i,M k (.int i))(hs:∀k n,n<27→M k (.str n))(ht:∀k l,(∀x∈l,M k x)→M (k+1) (.tup l)):∀k x,gI k x=true→M k x:=by
 have al:∀k,(∀x,gI k x=true→M k x)→∀l,oQ (gI k) l=true→∀x∈l,M k x:=by
  intro k ih l
  induction l with
  |nil=>intro _ x hx;cases hx
  |cons y l ihl=>
   intro h x hx
   refine aF (jP h) fun h1 h2=>?_
   cases hx with
   |head=>exact ih _ h1
   |tail _ hx=>exact ihl h2 x hx
 intro k
 induction k with
 |zero=>
  intro x h
  cases x with
  |int i=>exact hi _ i
  |str n=>exact hs _ n (Nat.blt_eq.mp h)
  |_=>cases h
 |succ k ih=>
  intro x h
  cases x with
  |int i=>exact hi _ i
  |str n=>exact hs _ n (Nat.blt_eq.mp h)
  |tup l=>exact ht k l (al k ih l h)
  |_=>cases h
theorem fU {x:V}(h:cC x=true):gI 7 x=true∧∃l,x=.tup l:=by
 cases x with
 |tup l=>exact ⟨h,l,rfl⟩
 |_=>cases h
noncomputable abbrev vA (vs:List Value):Obj:={cls:=.type "tuple",data:=.seq vs.toArray}
noncomputable abbrev bV (vs:List Value) (n:Nat):Obj:={cls:=.type "list",data:=.seq vs.toArray n}
noncomputable abbrev cD (es:List DictEntry) (n:Nat):Obj:={cls:=.type "dict",data:=.dict es.toArray n}
mutual
def AB (P:Params)(g:Gh):V→Value→Prop
 |.none,v=>v=.none
 |.bool b,v=>v=.bool b
 |.int i,v=>∃t,v=.int i t
 |.str n,v=>n<27∧∃t,v=.str (nm n) t
 |.tup l,v=>∃a vs,v=.ref a∧g a (vA vs)∧lC P g l vs
 |.lst l,v=>∃a vs n,v=.ref a∧g a (bV vs n)∧lC P g l vs
 |.dct l,v=>∃a es n,v=.ref a∧g a (cD es n)∧sP P g l es∧(l.map (·.1)).Nodup
def lC (P:Params)(g:Gh):List V→List Value→Prop
 |[],vs=>vs=[]
 |x::l,vs=>∃v t,vs=v::t∧AB P g x v∧lC P g l t
def sP (P:Params)(g:Gh):List (V×V)→List DictEntry→Prop
 |[],es=>es=[]
 |(k,x)::l,es=>∃b v t,es=⟨qZ P k,.ref b,v⟩::t∧cC k=true∧AB P g k (.ref b)∧AB P g x v∧sP P g l t
end
abbrev Rp (P:Params) (g:Gh) (v:Value) (x:V):Prop:=AB P g x v
abbrev bJ (P:Params) (g:Gh) (vs:List Value) (l:List V):Prop:=lC P g l vs
abbrev hM (P:Params) (g:Gh) (es:List DictEntry) (l:List (V×V)):Prop:=sP P g l es
section
variable {P:Params}{g g':Gh}{v:Value}{x:V}{vs ws:List Value}{l m:List V}{h:Heap}
theorem bJ.nil:bJ P g [] []:=rfl
theorem bJ.cons (h:Rp P g v x)(r:bJ P g vs l):bJ P g (v::vs) (x::l):=(bM v vs ⟨rfl,h,r⟩)
theorem bJ.length:∀{l vs},bJ P g vs l→vs.length=l.length:=fun {l}=>by
 induction l with
 |nil=>intro vs h;cases h;rfl
 |cons x l ih=>rintro vs ⟨v,t,rfl,_,r⟩;exact congrArg (· +1) (ih r)
theorem bJ.get:∀{l vs},bJ P g vs l→∀{i:Nat} {x:V},l[i]? =some x→∃v,vs[i]? =some v∧Rp P g v x:=fun {l}=>by
 induction l with
 |nil=>intro vs _ i x h;cases h
 |cons y l ih=>
  rintro vs ⟨v,t,rfl,r1,r⟩ i x h
  cases i with
  |zero=>cases h;exact ⟨v,rfl,r1⟩
  |succ i=>exact ih r (i:=i) h
theorem bJ.append (k:bJ P g ws m):∀{l vs},bJ P g vs l→bJ P g (vs++ws) (l++m):=fun {l}=>by
 induction l with
 |nil=>intro vs h;cases h;exact k
 |cons x l ih=>rintro vs ⟨v,t,rfl,r1,r⟩;exact .cons r1 (ih r)
theorem bJ.take:∀{l vs},bJ P g vs l→∀n:Nat,bJ P g (vs.take n) (l.take n):=fun {l}=>by
 induction l with
 |nil=>intro vs h n;cases h;refine (Eq.symm List.take_nil)▸?_;refine (Eq.symm List.take_nil)▸?_;rfl
 |cons x l ih=>
  rintro vs ⟨v,t,rfl,r1,r⟩ n
  cases n with
  |zero=>rfl
  |succ n=>exact .cons r1 (ih r n)
theorem bJ.drop:∀{l vs},bJ P g vs l→∀n:Nat,bJ P g (vs.drop n) (l.drop n):=fun {l}=>by
 induction l with
 |nil=>intro vs h n;cases h;refine (Eq.symm List.drop_nil)▸?_;refine (Eq.symm List.drop_nil)▸?_;rfl
 |cons x l ih=>
  rintro vs ⟨v,t,rfl,r1,r⟩ n
  cases n with
  |zero=>exact .cons r1 r
  |succ n=>exact ih r n
theorem bJ.replicate (h:Rp P g v x)(n:Nat):bJ P g (List.replicate n v) (List.replicate n x):=by
 induction n with
 |zero=>rfl
 |succ n ih=>exact .cons h ih
theorem bJ.set (k:Rp P g v x):∀{l vs},bJ P g vs l→∀n:Nat,bJ P g (vs.set n v) (l.set n x):=fun {l}=>by
 induction l with
 |nil=>intro vs h n;cases h;rfl
 |cons y l ih=>
  rintro vs ⟨u,t,rfl,r1,r⟩ n
  cases n with
  |zero=>exact .cons k r
  |succ n=>exact .cons r1 (ih r n)
mutual
theorem AB.mono (hk:∀a o,g a o→g' a o):∀(x:V) {v},AB P g x v→AB P g' x v
 |.none=>id
 |.bool _=>id
 |.int _=>id
 |.str _=>id
 |.tup l=>Exists.imp fun _=>Exists.imp fun _=>And.imp_right (And.imp (hk _ _) (lC.mono hk l))
 |.lst l=>Exists.imp fun _=>Exists.imp fun _=>Exists.imp fun _=>And.imp_right (And.imp (hk _ _) (lC.mono hk l))
 |.dct l=>Exists.imp fun _=>Exists.imp fun _=>Exists.imp fun _=>And.imp_right (And.imp (hk _ _) (And.imp_left (sP.mono hk l)))
theorem lC.mono (hk:∀a o,g a o→g' a o):∀(l:List V) {vs},lC P g l vs→lC P g' l vs
 |[]=>id
 |x::l=>Exists.imp fun _=>Exists.imp fun _=>And.imp_right (And.imp (AB.mono hk x) (lC.mono hk l))
theorem sP.mono (hk:∀a o,g a o→g' a o):∀(l:List (V×V)) {vs},sP P g l vs→sP P g' l vs
 |[]=>id
 |kx::l=>Exists.imp fun _=>Exists.imp fun _=>Exists.imp fun _=>And.imp_right (And.imp_right (And.imp (AB.mono hk kx.1) (And.imp (AB.mono hk kx.2) (sP.mono hk l))))
end
theorem Rp.mono (r:Rp P g v x)(hk:∀a o,g a o→g' a o):Rp P g' v x:=AB.mono hk x r
theorem bJ.mono (r:bJ P g vs l)(hk:∀a o,g a o→g' a o):bJ P g' vs l:=lC.mono hk l r
theorem hM.mono {es l}(r:hM P g es l)(hk:∀a o,g a o→g' a o):hM P g' es l:=sP.mono hk l r
theorem xI {a b:Nat}(ha:a<27)(hb:b<27)(h:nm a=nm b):a=b:=by
 have nd:nms.Nodup:=by decide+kernel
 unfold nm at h
 rw [List.getD_eq_getElem?_getD,List.getD_eq_getElem?_getD,List.getElem?_eq_getElem (show a<nms.length from ha),List.getElem?_eq_getElem (show b<nms.length from hb)] at h
 exact (List.getElem_inj nd).mp h
theorem aa8 {a:Nat}(ha:a<27):PyData.strOk (nm a)=true:=by
 have ok:nms.all PyData.strOk=true:=by decide+kernel
 unfold nm
 refine (Eq.symm List.getD_eq_getElem?_getD)▸?_;refine (Eq.symm (List.getElem?_eq_getElem (show a<nms.length from ha)))▸?_
 exact List.all_eq_true.mp ok _ (List.getElem_mem ha)
abbrev gh (h:Heap):Gh:=fun a o=>h.get? a=some o
noncomputable def kV:V→Nat
 |.none=>0
 |.bool _=>1
 |.int _=>2
 |.str _=>3
 |_=>4
noncomputable def kW:Value→Nat
 |.none=>0
 |.bool _=>1
 |.int _ _=>2
 |.str _ _=>3
 |.ref _=>4
 |_=>5
theorem sQ {g:Gh}{v:Value}{x:V}(h:Rp P g v x):Nat.beq (kW v) (kV x)=true:=by
 cases x with
 |none=>cases h;rfl
 |bool _=>cases h;rfl
 |int _=>obtain ⟨_,e⟩:=h;cases e;rfl
 |str _=>obtain ⟨_,_,e⟩:=h;cases e;rfl
 |tup _=>obtain ⟨_,_,e,_⟩:=h;cases e;rfl
 |lst _=>obtain ⟨_,_,_,e,_⟩:=h;cases e;rfl
 |dct _=>obtain ⟨_,_,_,e,_⟩:=h;cases e;rfl
theorem GC {g:Gh}:∀l:List V,(∀x∈l,∀v y,Rp P g v x→Rp P g v y→x=y)→∀vs m,lC P g l vs→lC P g m vs→l=m:=fun l=>by
 induction l with
 |nil=>
  intro _ vs m r q
  cases r
  cases m with
  |nil=>rfl
  |cons _ _=>obtain ⟨_,_,q,_⟩:=q;cases q
 |cons x l ihl=>
  intro ih vs m r q
  obtain ⟨v,t,e,r1,r2⟩:=r
  subst e
  cases m with
  |nil=>cases q
  |cons y m=>
   obtain ⟨v',t',e,q1,q2⟩:=q
   cases e
   exact List.cons_eq_cons.mpr ⟨ih x (.head _) v y r1 q1,ihl (fun x hx=>ih x (.tail _ hx)) t m r2 q2⟩
theorem AC:∀k x,gI k x=true→∀v y,Rp P (gh h) v x→Rp P (gh h) v y→x=y:=
 gV (fun _ i v y r q=>by
   obtain ⟨t,rfl⟩:=r
   cases y with
   |int j=>obtain ⟨_,q⟩:=q;cases q;rfl
   |_=>exact (Bool.false_ne_true (sQ q)).elim)
  (fun _ n hn v y r q=>by
   obtain ⟨_,t,rfl⟩:=r
   cases y with
   |str j=>obtain ⟨hj,_,q⟩:=q;rw [xI hn hj (Value.str.inj q).1]
   |_=>exact (Bool.false_ne_true (sQ q)).elim) fun k l ih v y r q=>by
  obtain ⟨a,vs,rfl,g1,r⟩:=r
  have no:∀(T:String) d s,h.get? a=some ⟨.type T,none,d,s⟩→T= "tuple" :=fun T d s e=>by
   have:=congrArg (Option.map Obj.cls) (g1.symm.trans e)
   exact (Value.type.inj (Option.some.inj this)).symm
  cases y with
  |tup m=>
   obtain ⟨a',ws,e,g2,q⟩:=q
   cases e
   have e:vs=ws:=by
    have:=g1.symm.trans g2
    simpa using this
   subst e
   exact congrArg V.tup (GC l ih vs m r q)
  |lst _=>obtain ⟨_,_,_,e,q,_⟩:=q;cases e;exact absurd (no _ _ _ q) (by decide)
  |dct _=>obtain ⟨_,_,_,e,q,_⟩:=q;cases e;exact absurd (no _ _ _ q) (by decide)
  |_=>exact (Bool.false_ne_true (sQ q)).elim
theorem oR:∀k x,gI k x=true→∀v,Rp P (gh h) v x→∃as,Reads h v x.py as:=
 gV (fun _ i v r=>by obtain ⟨t,rfl⟩:=r;exact ⟨_,.int i t⟩) (fun _ n _ v r=>by obtain ⟨_,t,rfl⟩:=r;exact ⟨_,.str _ t⟩) fun k l ih v r=>by
  obtain ⟨a,vs,rfl,g1,r⟩:=r
  have al:∀l,(∀x∈l,∀v,Rp P (gh h) v x→∃as,Reads h v x.py as)→∀vs,bJ P (gh h) vs l→∃as,ReadsAll h vs (V.pys l) as:=by
   intro l
   induction l with
   |nil=>rintro _ vs rfl;exact ⟨_,.nil⟩
   |cons x l ihl=>
    rintro f vs ⟨v,t,rfl,r1,r2⟩
    obtain ⟨as,q⟩:=f x (.head _) v r1
    obtain ⟨bs,p⟩:=ihl (fun x hx=>f x (.tail _ hx)) t r2
    exact ⟨_,.cons q p⟩
  obtain ⟨as,q⟩:=al l ih vs r
  exact ⟨_,.tuple g1 rfl rfl q⟩
theorem CU:∀k x,gI k x=true→x.py.canLay0=true∧x.py.depth≤k:=
 gV (fun _ _=>⟨rfl,Nat.zero_le _⟩) (fun _ n hn=>⟨aa8 hn,Nat.zero_le _⟩) fun k l ih=>by
  have al:∀l:List V,(∀x∈l,x.py.canLay0=true∧x.py.depth≤k)→PyData.canLayAll0 (V.pys l)=true∧PyData.depthAll (V.pys l)≤k:=by
   intro l
   induction l with
   |nil=>intro _;exact ⟨rfl,Nat.zero_le _⟩
   |cons x l ihl=>
    intro f
    refine aF (f x (.head _)) fun a b=>?_
    refine aF (ihl fun x hx=>f x (.tail _ hx)) fun c d=>?_
    exact ⟨by show (_ && _)=true;refine (Eq.symm a)▸?_;refine (Eq.symm c)▸?_;rfl,Nat.max_le.mpr ⟨b,d⟩⟩
  exact ⟨(al l ih).1,Nat.succ_le_succ (al l ih).2⟩
theorem fS {k:Nat}(hk:k≤64){x:V}(h:gI k x=true):SeqAt.shaped x.py=true:=by
 have:=CU k x h
 unfold SeqAt.shaped
 refine (Eq.symm this.1)▸?_;refine (Eq.symm (decide_eq_true (Nat.le_trans this.2 hk)))▸?_;rfl
theorem GD:∀k x,gI k x=true→∀j y,gI j y=true→(PyData.eqv x.py y.py=true↔x=y):=by
 refine gV (fun _ i j y hy=>?_) (fun _ n hn j y hy=>?_) fun k l ih j y hy=>?_
 ·refine gV (M:=fun _ y=>PyData.eqv (V.int i).py y.py=true↔.int i=y) (fun _ i'=>?_) (fun _ n _=>?_) (fun _ l _=>?_) j y hy
  ·show (i==i')=true↔_;rw [beq_iff_eq,V.int.injEq]
  ·exact ⟨fun e=>(Bool.false_ne_true e).elim,fun e=>V.noConfusion e⟩
  ·exact ⟨fun e=>(Bool.false_ne_true e).elim,fun e=>V.noConfusion e⟩
 ·refine gV (M:=fun _ y=>PyData.eqv (V.str n).py y.py=true↔.str n=y) (fun _ i'=>?_) (fun _ m hm=>?_) (fun _ l _=>?_) j y hy
  ·exact ⟨fun e=>(Bool.false_ne_true e).elim,fun e=>V.noConfusion e⟩
  ·show (nm n==nm m)=true↔_;rw [beq_iff_eq,V.str.injEq];exact ⟨xI hn hm,fun e=>by rw [e]⟩
  ·exact ⟨fun e=>(Bool.false_ne_true e).elim,fun e=>V.noConfusion e⟩
 ·cases y with
  |int _=>exact ⟨fun e=>(Bool.false_ne_true e).elim,fun e=>V.noConfusion e⟩
  |str _=>exact ⟨fun e=>(Bool.false_ne_true e).elim,fun e=>V.noConfusion e⟩
  |tup m=>
   cases j with
   |zero=>cases hy
   |succ j=>
    show PyData.eqvAll (V.pys l) (V.pys m)=true↔_
    rw [V.tup.injEq]
    replace hy:oQ (gI j) m=true:=hy
    revert m
    induction l with
    |nil=>
     intro m _
     cases m with
     |nil=>exact ⟨fun _=>rfl,fun _=>rfl⟩
     |cons _ _=>exact ⟨fun e=>(Bool.false_ne_true e).elim,fun e=>(by cases e)⟩
    |cons x l ihl=>
     intro m hy
     cases m with
     |nil=>exact ⟨fun e=>(Bool.false_ne_true e).elim,fun e=>(by cases e)⟩
     |cons y m=>
      refine aF (jP hy) fun h1 h2=>?_
      show (PyData.eqv x.py y.py && PyData.eqvAll (V.pys l) (V.pys m))=true↔_
      have e2:PyData.eqvAll (V.pys l) (V.pys m)=true↔l=m:=ihl (fun x hx=>ih x (.tail _ hx)) m h2
      rw [Bool.and_eq_true,ih x (.head _) j y h1,e2,List.cons.injEq]
  |_=>cases j<;>cases hy
end
end Mine.Internal
set_option genInjectivity false
namespace Mine.Internal
mutual
inductive BO where
 |add|sub|mul|fdiv|mod|pow
inductive CO where
 |eq|ne|lt|le|gt|ge
inductive B1 where
 |len|abs|tuple|list|sum
inductive B2 where
 |min|max
end
mutual
inductive E where
 |bad
 |none|bool (b:Bool)|int (i:Int)|str (n:Nat)
 |var (i:Nat)|frz (i:Nat)|glob (g:Nat)
 |bin (o:BO) (a b:E)|neg (a:E)|not (a:E)
 |cmp (o:CO) (a b:E)
 |isN (a:E)
 |inS (p:Bool) (a:E) (ns:List Nat)
 |and (es:List E)|or (es:List E)
 |ite (t a b:E)
 |tup (es:List E)|lst (es:List E)|dct0|dct1 (k v:E)
 |subN (a:E) (n:Nat)|sub (a i:E)|subO (x:Nat) (i:E)
 |slcLo (a lo:E)|slcHi (a hi:E)
 |call (f:Nat) (es:List E)
 |callO (f:Nat) (x:Nat) (es:List E)
 |bi1 (b:B1) (a:E)|bi2 (b:B2) (a c:E)
 |dget (x:Nat) (k d:E)|dpop (x:Nat) (k d:E)
 |comp (nv:Nat) (s:Sr) (ifs:List E) (elt:E)
 |rank (a:E)
inductive Sr where
 |val (a:E)|rng1 (a:E)|rng2 (a b:E)|enm (a:E)|itm (x:Nat)|srtE (x:Nat)
end
inductive Rv where
 |e (e:E)|newL|newD
inductive S where
 |bad
 |asg (x:Nat) (e:E)
 |newL (x:Nat)|newD (x:Nat)|newLi (x:Nat) (es:List E)|cpD (x:Nat) (e:E)|mtD (x:Nat) (e:E)
 |unpE (xs:List Nat) (es:List Rv)
 |unp (xs:List Nat) (e:E)
 |setI (x:Nat) (i v:E)
 |aug (x:Nat) (e:E)
 |app (x:Nat) (e:E)|ext (x:Nat) (e:E)
 |ex (e:E)
 |ret (e:E)
 |ite (t:E) (a b:List S)
 |whl (t:E) (b:List S)
 |for (xs:List Nat) (s:Sr) (b:List S)
 |tryS (b:List S)
set_option genCtorIdx true in
inductive aE where
 |un|v (x:V)|l (xs:List V)|d (kvs:List (V×V))
abbrev Fm:=List aE
noncomputable def qK:aE→Bool
 |.l _=>true
 |_=>false
noncomputable def qM:aE→Bool
 |.d _=>true
 |_=>false
noncomputable def aP:aE→Bool
 |.l _=>true
 |.d _=>true
 |_=>false
noncomputable def isV:aE→Bool
 |.v _=>true
 |_=>false
noncomputable def jA:Nat:=2^20
noncomputable def Fm.at (ρ:Fm)(i:Nat):aE:=ρ.getD i .un
noncomputable def upTo:Nat→Int→List V
 |0,_=>[]
 |n+1,a=>.int a::upTo n (a+1)
noncomputable def iO:Int→List V→List V
 |_,[]=>[]
 |i,x::r=>.tup [.int i,x]::iO (i+1) r
noncomputable def kH:List (V×V)→List V
 |[]=>[]
 |(a,b)::r=>.tup [a,b]::kH r
noncomputable def sR:List V→Option Int
 |[]=>some 0
 |x::r=>match x with
  |.int a=>(sR r).map (a+ ·)
  |_=>none
noncomputable def xJ (x y:V):Option V:=match x with
 |.lst l=>match y with
  |.int i=>if 0≤i∧l.length≤jA then some (.lst (l.drop i.toNat)) else none
  |_=>none
 |_=>none
noncomputable def kI (x y:V):Option V:=match x with
 |.lst l=>match y with
  |.int i=>if 0≤i∧l.length≤jA then some (.lst (l.take i.toNat)) else none
  |_=>none
 |_=>none
noncomputable def AD (v:V):Option V:=match v with
 |.str n=>(([4,0,2,3,5,1]:List Int)[n]?).map .int
 |_=>none
noncomputable def aW:List Nat→List aE→Fm→Fm
 |[],_,ρ=>ρ
 |i::r,l,ρ=>match l with
  |s::t=>aW r t (ρ.set i s)
  |[]=>ρ
mutual
noncomputable def UB:V→Option Int
 |.int i=>some (reduceHash (intHash i))
 |.tup l=>(oS l).map fun hs=>reduceHash (Builtin.Tuple.tupleHashOf hs)
 |_=>none
noncomputable def oS:List V→Option (List Int)
 |[]=>some []
 |x::r=>(UB x).bind fun h=>(oS r).map (h:: ·)
end
noncomputable def xK (l:List (V×V)):Bool:=match oS (l.map (·.1)) with
 |some hs=>decide hs.Nodup
 |none=>false
structure Fn where
 name:Str
 arity:Nat
 io:Bool
 vars:List Str
 body:List S
noncomputable def VU (io:Bool):List aE→Bool
 |[]=> !io
 |s::r=>(if io then aP s else isV s) && r.all isV
abbrev CF:=Nat→List aE→Option (V×aE)
mutual
noncomputable def aJ:E→Bool
 |.none=>true
 |.bool _=>true
 |.int _=>true
 |.str _=>true
 |.var _=>true
 |.glob _=>true
 |.bin _ a b=>aJ a && aJ b
 |.neg a=>aJ a
 |.not a=>aJ a
 |.cmp _ a b=>aJ a && aJ b
 |.isN a=>aJ a
 |.inS _ a _=>aJ a
 |.and es=>aK es
 |.or es=>aK es
 |.ite t a b=>aJ t && aJ a && aJ b
 |.tup es=>aK es
 |.lst es=>aK es
 |.subN a _=>aJ a
 |.sub a i=>aJ a && aJ i
 |.subO _ i=>aJ i
 |.slcLo a i=>aJ a && aJ i
 |.slcHi a i=>aJ a && aJ i
 |.call _ es=>aK es
 |.bi1 _ a=>aJ a
 |.bi2 _ a b=>aJ a && aJ b
 |.rank a=>aJ a
 |.dget _ a b=>aJ a && aJ b
 |.bad=>true
 |.dct0=>true
 |.dct1 a b=>aJ a && aJ b
 |_=>false
noncomputable def aK:List E→Bool
 |[]=>true
 |e::r=>aJ e && aK r
end
noncomputable def iW:Int→Int→Bool
 |.ofNat a,y=>match y with
  |.ofNat b=>Nat.beq a b
  |_=>false
 |.negSucc a,y=>match y with
  |.negSucc b=>Nat.beq a b
  |_=>false
noncomputable def lD:Int→Int→Bool
 |.ofNat a,y=>match y with
  |.ofNat b=>Nat.blt a b
  |.negSucc _=>false
 |.negSucc a,y=>match y with
  |.ofNat _=>true
  |.negSucc b=>Nat.blt b a
noncomputable def vC {β:Type}(n:Nat)(k:Nat→β):β:=match n with
 |0=>k 0
 |n+1=>k (n+1)
noncomputable def lE {β:Type}(i:Int)(k:Int→β):β:=match i with
 |.ofNat n=>vC n fun n=>k (.ofNat n)
 |.negSucc n=>vC n fun n=>k (.negSucc n)
noncomputable def CV (l:List V):Nat→Option V:=List.rec (motive:=fun _=>Nat→Option V) (fun _=>none) (fun x _ ih n=>match n with
  |0=>some x
  |n+1=>ih n) l
noncomputable def vD {β:Type}(v:V)(n:Nat)(k:V→Option β):Option β:=match v with
 |.tup l=>cond (Nat.ble n 1000) ((CV l n).bind k) none
 |.lst l=>cond (Nat.ble n 1000) ((CV l n).bind k) none
 |_=>none
noncomputable def OJ {β:Type}(l:List V)(i:Int)(k:V→Option β):Option β:=match i with
 |.ofNat n=>cond (Nat.ble n 1000) ((CV l n).bind k) none
 |.negSucc n=>cond (Nat.ble l.length 1000) (cond (Nat.blt n l.length) ((CV l (l.length - (n+1))).bind k) none) none
noncomputable def OL (f:V→V→Option Bool)(l:List V):List V→Option Bool:=List.rec (motive:=fun _=>List V→Option Bool) (fun m=>match m with
  |[]=>some true
  |_=>some false) (fun x _ ih m=>match m with
  |[]=>some false
  |y::m=>(f x y).bind fun t=>cond t (ih m) (some false)) l
noncomputable def iH (n:Nat):V→V→Option Bool:=Nat.rec (motive:=fun _=>V→V→Option Bool) (fun a b=>match a with
  |.int i=>match b with
   |.int j=>some (iW i j)
   |.str _=>some false
   |.tup _=>some false
   |_=>none
  |.str m=>match b with
   |.str n=>some (Nat.beq m n)
   |.int _=>some false
   |.tup _=>some false
   |_=>none
  |_=>none) (fun _ ih a b=>match a with
  |.int i=>match b with
   |.int j=>some (iW i j)
   |.str _=>some false
   |.tup _=>some false
   |_=>none
  |.str m=>match b with
   |.str n=>some (Nat.beq m n)
   |.int _=>some false
   |.tup _=>some false
   |_=>none
  |.tup l=>match b with
   |.tup m=>OL ih l m
   |.int _=>some false
   |.str _=>some false
   |_=>none
  |_=>none) n
noncomputable def qN {β:Type}(a b:V)(k:Bool→Option β):Option β:=match a with
 |.str m=>match b with
  |.str n=>cond (Nat.blt m 27) (cond (Nat.blt n 27) (k (Nat.beq m n)) none) none
  |b=>cond (gI 20 b) (cond (Nat.blt m 27) (k false) none) none
 |.int i=>match b with
  |.int j=>k (iW i j)
  |b=>cond (gI 20 b) (k false) none
 |.bool i=>match b with
  |.bool j=>k (i==j)
  |_=>none
 |a=>cond (gI 20 a) (cond (gI 20 b) ((iH 20 a b).bind k) none) none
noncomputable def qO {β:Type}(a b:V)(k:Bool→Option β):Option β:=match a with
 |.int i=>match b with
  |.int j=>k (lD i j)
  |_=>none
 |_=>none
noncomputable def bK {β:Type}(o:CO)(a b:V)(k:V→Option β):Option β:=match o with
 |.eq=>qN a b fun t=>k (.bool t)
 |.ne=>qN a b fun t=>k (.bool (not t))
 |.lt=>qO a b fun t=>k (.bool t)
 |.gt=>qO b a fun t=>k (.bool t)
 |.le=>qO b a fun t=>k (.bool (not t))
 |.ge=>qO a b fun t=>k (.bool (not t))
noncomputable def GE {β:Type}(a b:V)(k:V→Option β):Option β:=match a with
 |.int i=>match b with
  |.int j=>lE (Int.add i j) fun z=>k (.int z)
  |_=>none
 |.lst l=>match b with
  |.lst m=>cond (Nat.ble (Nat.add l.length m.length) jA) (k (.lst (List.append l m))) none
  |_=>none
 |.tup l=>match b with
  |.tup m=>cond (Nat.ble (Nat.add l.length m.length) jA) (k (.tup (List.append l m))) none
  |_=>none
 |_=>none
noncomputable def GF {β:Type}(a b:V)(k:V→Option β):Option β:=match a with
 |.int i=>match b with
  |.int j=>lE (Int.sub i j) fun z=>k (.int z)
  |_=>none
 |.bool i=>match b with
  |.bool j=>k (.int (Int.sub (cond i 1 0) (cond j 1 0)))
  |_=>none
 |_=>none
noncomputable def GG {β:Type}(a b:V)(k:V→Option β):Option β:=match a with
 |.int i=>match b with
  |.int j=>cond (Nat.blt i.natAbs 18446744073709551616) (lE (Int.mul i j) fun z=>k (.int z)) none
  |_=>none
 |.lst l=>match b with
  |.int j=>match l with
   |[x]=>cond (lD j 1000) (cond (lD (-1000) j) (k (.lst (List.replicate j.toNat x))) none) none
   |_=>none
  |_=>none
 |_=>none
noncomputable def AE {β:Type}(a b:V)(k:V→Option β):Option β:=match a with
 |.int i=>match b with
  |.int j=>cond (iW j 0) none (cond (Nat.blt j.natAbs 18446744073709551616) (lE (Int.fdiv i j) fun z=>k (.int z)) none)
  |_=>none
 |_=>none
noncomputable def VV {β:Type}(a b:V)(k:V→Option β):Option β:=match a with
 |.int i=>match b with
  |.int j=>cond (iW j 0) none (lE (Int.fmod i j) fun z=>k (.int z))
  |_=>none
 |_=>none
noncomputable def aa9 {β:Type}(a b:V)(k:V→Option β):Option β:=match a with
 |.int i=>match b with
  |.int j=>match j with
   |.ofNat n=>cond (Nat.ble n 1000000) (cond (Nat.blt i.natAbs 18446744073709551616) (lE (Int.pow i n) fun z=>k (.int z)) none) none
   |.negSucc _=>none
  |_=>none
 |_=>none
noncomputable def cL {β:Type}(o:BO)(a b:V)(k:V→Option β):Option β:=match o with
 |.add=>GE a b k
 |.sub=>GF a b k
 |.mul=>GG a b k
 |.fdiv=>AE a b k
 |.mod=>VV a b k
 |.pow=>aa9 a b k
noncomputable def dG {β:Type}(v:V)(k:Bool→Option β):Option β:=match v with
 |.bool b=>k b
 |_=>none
noncomputable def GH {β:Type}(v:V)(k:V→Option β):Option β:=match v with
 |.lst l=>cond (Nat.ble l.length 1000) (k (.int (.ofNat l.length))) none
 |.tup l=>cond (Nat.ble l.length 1000) (k (.int (.ofNat l.length))) none
 |_=>none
noncomputable def hJ {β:Type}(b:B1)(v:V)(k:V→Option β):Option β:=match b with
 |.len=>GH v k
 |.abs=>match v with
  |.int i=>k (.int (.ofNat i.natAbs))
  |_=>none
 |.tuple=>match v with
  |.lst l=>cond (Nat.ble l.length 1000) (k (.tup l)) none
  |_=>none
 |.list=>match v with
  |.lst l=>cond (Nat.ble l.length 1000) (k (.lst l)) none
  |.tup l=>cond (Nat.ble l.length 1000) (k (.lst l)) none
  |_=>none
 |.sum=>match v with
  |.lst l=>cond (Nat.ble l.length jA) ((sR l).bind fun i=>k (.int i)) none
  |_=>none
noncomputable def AF {β:Type}(b:B2)(x y:V)(k:V→Option β):Option β:=match b with
 |.min=>qO y x fun t=>k (cond t y x)
 |.max=>qO x y fun t=>k (cond t y x)
noncomputable def fW {β:Type}(k:V)(q:Option V→Option β)(l:List (V×V)):Option β:=List.rec (motive:=fun _=>Option β) (q none) (fun p _ ih=>(iH 8 p.1 k).bind fun t=>cond t (q (some p.2)) ih) l
noncomputable def qP (k v:V)(l:List (V×V)):Option (List (V×V)):=List.rec (motive:=fun _=>Option (List (V×V))) (some [(k,v)]) (fun p r ih=>(iH 8 p.1 k).bind fun t=>cond t (some ((p.1,v)::r)) (ih.bind fun z=>some (p::z))) l
noncomputable def sS (k:V)(l:List (V×V)):Option (List (V×V)):=List.rec (motive:=fun _=>Option (List (V×V))) (some []) (fun p r ih=>(iH 8 p.1 k).bind fun t=>cond t (some r) (ih.bind fun z=>some (p::z))) l
noncomputable def oU {β:Type}(x y:V)(k:V→Option β):Option β:=match x with
 |.lst l=>match y with
  |.int i=>OJ l i k
  |_=>none
 |.tup l=>match y with
  |.int i=>match i with
   |.ofNat n=>vD (.tup l) n k
   |.negSucc _=>none
  |_=>none
 |.dct l=>cond (cC y) (fW y (fun o=>match o with
  |some z=>k z
  |none=>none) l) none
 |_=>none
noncomputable def fE {β:Type}:Nat→Fm→(Fm→Option β)→Option β
 |0,ρ,k=>match ρ with
  |[]=>k []
  |_=>none
 |n+1,ρ,k=>match ρ with
  |s::r=>fE n r fun t=>k (s::t)
  |[]=>none
noncomputable def fF {β:Type}:Nat→List V→(List V→Option β)→Option β
 |0,l,k=>match l with
  |[]=>k []
  |_=>none
 |n+1,l,k=>match l with
  |x::r=>fF n r fun t=>k (x::t)
  |[]=>none
noncomputable def fX {β:Type}(n:Nat)(x:V)(k:List aE→Option β):Option β:=match n with
 |0=>none
 |n+1=>match n with
  |0=>k [.v x]
  |n+1=>match n with
   |0=>match x with
    |.tup l=>fF 2 l fun l=>k (l.map .v)
    |_=>none
   |_=>none
noncomputable def bE {β:Type}(xs:List Nat)(x:V)(ρ:Fm)(k:Fm→Option β):Option β:=match xs with
 |[]=>none
 |i::r=>match r with
  |[]=>k (ρ.set i (.v x))
  |j::t=>match t with
   |[]=>match x with
    |.tup l=>fF 2 l fun l=>k (aW [i,j] (l.map .v) ρ)
    |_=>none
   |_=>none
noncomputable def xM (elt:V→Option (Option V))(l:List V):Option (List V):=List.rec (motive:=fun _=>Option (List V)) (some []) (fun x _ ih=>(elt x).bind fun o=>match o with
  |none=>ih
  |some y=>ih.bind fun z=>some (y::z)) l
noncomputable def xN {β:Type}(m n:Int)(k:List V→Option β):Option β:=
 cond (lD n 1000) (cond (lD m 1000) (cond (lD (-1000) n) (cond (lD (-1000) m) (k (upTo (Int.toNat (Int.sub n m)) m)) none) none) none) none
noncomputable def rA (bind:V→Fm→Option Fm)(step:Fm→(Option V→Fm→Option (List V×Fm))→Option (List V×Fm)):List V→Fm→Option (List V×Fm)
 |[],ρ=>some ([],ρ)
 |x::r,ρ=>(bind x ρ).bind fun ρ₁=>step ρ₁ fun o ρ₂=>(rA bind step r ρ₂).bind fun z=>some ((match o with|some y=>y::z.1|none=>z.1),z.2)
noncomputable def itV (v:V):Option (List V):=match v with
 |.lst l=>some l
 |.tup l=>some l
 |.dct l=>some (l.map (·.1))
 |_=>none
variable (C:CF)(G:List V)
mutual
noncomputable def kE:E→(β:Type)→Fm→(V→Fm→Option β)→Option β
 |.bad,_,_,_=>none
 |.none,_,ρ,k=>k .none ρ
 |.bool b,_,ρ,k=>k (.bool b) ρ
 |.int i,_,ρ,k=>k (.int i) ρ
 |.str n,_,ρ,k=>k (.str n) ρ
 |.var i,_,ρ,k=>match ρ.at i with
  |.v x=>k x ρ
  |_=>none
 |.frz i,_,ρ,k=>match ρ.at i with
  |.l xs=>k (.lst xs) (ρ.set i (.v (.lst xs)))
  |.d kvs=>k (.dct kvs) (ρ.set i (.v (.dct kvs)))
  |_=>none
 |.glob g,_,ρ,k=>(G[g]?).bind fun x=>k x ρ
 |.bin o a b,β,ρ,k=>kE a β ρ fun x ρ₁=>kE b β ρ₁ fun y ρ₂=>cL o x y fun z=>k z ρ₂
 |.neg a,β,ρ,k=>kE a β ρ fun x ρ₁=>match x with
  |.int i=>k (.int (Int.neg i)) ρ₁
  |_=>none
 |.not a,β,ρ,k=>kE a β ρ fun x ρ₁=>dG x fun t=>k (.bool (not t)) ρ₁
 |.cmp o a b,β,ρ,k=>kE a β ρ fun x ρ₁=>kE b β ρ₁ fun y ρ₂=>bK o x y fun z=>k z ρ₂
 |.isN a,β,ρ,k=>kE a β ρ fun x ρ₁=>k (.bool (match x with
  |.none=>true
  |_=>false)) ρ₁
 |.inS p a ns,β,ρ,k=>kE a β ρ fun x ρ₁=>match x with
  |.str n=>k (.bool (cond (ns.contains n) p (not p))) ρ₁
  |_=>none
 |.and es,β,ρ,k=>cond (aK es) ((cM es V ρ fun v _=>some v).bind fun v=>k v ρ) none
 |.or es,β,ρ,k=>cond (aK es) ((uV es V ρ fun v _=>some v).bind fun v=>k v ρ) none
 |.ite t a b,β,ρ,k=>cond (aJ t && aJ a && aJ b) (kE t β ρ fun x _=>dG x fun c=>(cond c (kE a V ρ fun v _=>some v) (kE b V ρ fun v _=>some v)).bind fun v=>k v ρ) none
 |.tup es,β,ρ,k=>bW es β ρ fun l ρ₁=>k (.tup l) ρ₁
 |.lst es,β,ρ,k=>bW es β ρ fun l ρ₁=>k (.lst l) ρ₁
 |.dct0,_,ρ,k=>k (.dct []) ρ
 |.dct1 a v,β,ρ,k=>kE a β ρ fun x ρ₁=>kE v β ρ₁ fun y ρ₂=>cond (cC x) (k (.dct [(x,y)]) ρ₂) none
 |.subN a n,β,ρ,k=>kE a β ρ fun x ρ₁=>vD x n fun z=>k z ρ₁
 |.sub a i,β,ρ,k=>kE a β ρ fun x ρ₁=>kE i β ρ₁ fun y ρ₂=>oU x y fun z=>k z ρ₂
 |.subO n i,β,ρ,k=>cond (aJ i) (kE i β ρ fun y _=>match ρ.at n with
  |.l xs=>match y with
   |.int i=>OJ xs i fun z=>k z ρ
   |_=>none
  |_=>none) none
 |.slcLo a i,β,ρ,k=>kE a β ρ fun x ρ₁=>kE i β ρ₁ fun y ρ₂=>(xJ x y).bind fun z=>k z ρ₂
 |.slcHi a i,β,ρ,k=>kE a β ρ fun x ρ₁=>kE i β ρ₁ fun y ρ₂=>(kI x y).bind fun z=>k z ρ₂
 |.call f es,β,ρ,k=>bW es β ρ fun l ρ₁=>(C f (l.map .v)).bind fun r=>k r.1 ρ₁
 |.callO f n es,β,ρ,k=>cond (aK es) (bW es β ρ fun x _=>match ρ.at n with
  |.l xs=>(C f (.l xs::x.map .v)).bind fun r=>k r.1 (ρ.set n r.2)
  |.d xs=>(C f (.d xs::x.map .v)).bind fun r=>k r.1 (ρ.set n r.2)
  |_=>none) none
 |.bi1 b a,β,ρ,k=>kE a β ρ fun x ρ₁=>hJ b x fun z=>k z ρ₁
 |.bi2 b a c,β,ρ,k=>kE a β ρ fun x ρ₁=>kE c β ρ₁ fun y ρ₂=>AF b x y fun z=>k z ρ₂
 |.dget n a d,β,ρ,k=>cond (aJ a && aJ d) (kE a β ρ fun x _=>kE d β ρ fun y _=>match ρ.at n with
  |.d kvs=>cond (cC x) (fW x (fun o=>k (o.getD y) ρ) kvs) none
  |_=>none) none
 |.dpop n a d,β,ρ,k=>cond (aJ a && aJ d) (kE a β ρ fun x _=>kE d β ρ fun y _=>match ρ.at n with
  |.d kvs=>cond (cC x) (cond (Nat.ble kvs.length 1000) (fW x (fun o=>(sS x kvs).bind fun w=>k (o.getD y) (ρ.set n (.d w))) kvs) none) none
  |_=>none) none
 |.comp nv s ifs elt,β,ρ,k=>cond (aK ifs && aJ elt) (gJ s β ρ fun items ρ₁=>
   (xM (fun x=>fX nv x fun bs=>cM ifs _ (ρ₁++bs) fun t _=>dG t fun c=>cond c (kE elt _ (ρ₁++bs) fun y _=>some (some y)) (some none)) items).bind fun z=>
    cond (Nat.ble items.length 1000) (cond (Nat.beq ρ₁.length ρ.length) (k (.lst z) ρ₁) none) none)
   (gJ s β ρ fun items ρ₁=>(rA (fun x σ=>bE ((List.range nv).map (ρ.length+ ·)) x σ some) (fun σ q=>cM ifs _ σ fun t τ=>dG t fun c=>cond c (kE elt _ τ fun y σ=>q (some y) σ) (q none τ)) items (ρ₁++List.replicate nv .un)).bind fun z=>
    cond (Nat.ble items.length 1000) (fE ρ.length (z.2.take ρ.length) fun τ=>k (.lst z.1) τ) none)
 |.rank a,β,ρ,k=>kE a β ρ fun x ρ₁=>(AD x).bind fun z=>k z ρ₁
noncomputable def bW:List E→(β:Type)→Fm→(List V→Fm→Option β)→Option β
 |[],_,ρ,k=>k [] ρ
 |e::r,β,ρ,k=>kE e β ρ fun x ρ₁=>bW r β ρ₁ fun l ρ₂=>k (x::l) ρ₂
noncomputable def cM:List E→(β:Type)→Fm→(V→Fm→Option β)→Option β
 |[],_,ρ,k=>k (.bool true) ρ
 |e::r,β,ρ,k=>match r with
  |[]=>kE e β ρ k
  |_::_=>kE e β ρ fun x ρ₁=>dG x fun t=>cond t (cM r β ρ₁ k) (k (.bool false) ρ₁)
noncomputable def uV:List E→(β:Type)→Fm→(V→Fm→Option β)→Option β
 |[],_,ρ,k=>k (.bool false) ρ
 |e::r,β,ρ,k=>match r with
  |[]=>kE e β ρ k
  |_::_=>kE e β ρ fun x ρ₁=>dG x fun t=>cond t (k (.bool true) ρ₁) (uV r β ρ₁ k)
noncomputable def gJ:Sr→(β:Type)→Fm→(List V→Fm→Option β)→Option β
 |.val a,β,ρ,k=>kE a β ρ fun x ρ₁=>(itV x).bind fun l=>k l ρ₁
 |.rng1 a,β,ρ,k=>kE a β ρ fun x ρ₁=>match x with
  |.int n=>xN 0 n fun l=>k l ρ₁
  |_=>none
 |.rng2 a b,β,ρ,k=>kE a β ρ fun x ρ₁=>kE b β ρ₁ fun y ρ₂=>match x with
  |.int m=>match y with
   |.int n=>xN m n fun l=>k l ρ₂
   |_=>none
  |_=>none
 |.enm a,β,ρ,k=>kE a β ρ fun x ρ₁=>match x with
  |.lst l=>k (iO 0 l) ρ₁
  |_=>none
 |.itm n,_,ρ,k=>match ρ.at n with
  |.d kvs=>k (kH kvs) (ρ.set n (.v (.dct kvs)))
  |_=>none
 |.srtE n,_,ρ,k=>match ρ.at n with
  |.d kvs=>match kvs with
   |[]=>k [] ρ
   |_=>none
  |_=>none
end
noncomputable def rB:List Rv→(β:Type)→Fm→(List aE→Fm→Option β)→Option β
 |[],_,ρ,k=>k [] ρ
 |v::r,β,ρ,k=>match v with
  |.e e=>kE C G e β ρ fun x ρ₁=>rB r β ρ₁ fun l ρ₂=>k (.v x::l) ρ₂
  |.newL=>rB r β ρ fun l ρ₁=>k (.l []::l) ρ₁
  |.newD=>rB r β ρ fun l ρ₁=>k (.d []::l) ρ₁
noncomputable def VW {β:Type}(step:V→Fm→(Fm→Option β)→Option β)(next:Fm→Option β)(l:List V):Fm→Option β:=List.rec (motive:=fun _=>Fm→Option β) next (fun x _ ih ρ=>step x ρ ih) l
noncomputable def sU {β:Type}(step:Fm→(Fm→Option β)→(Fm→Option β)→Option β)(next:Fm→Option β)(n:Nat):Fm→Option β:=Nat.rec (motive:=fun _=>Fm→Option β) (fun _=>none) (fun _ ih ρ=>step ρ ih next) n
mutual
noncomputable def kS:S→(β:Type)→Fm→(Fm→Option β)→(V→Fm→Option β)→Option β
 |.bad,_,_,_,_=>none
 |.asg x e,β,ρ,k,_=>kE C G e β ρ fun v ρ₁=>k (ρ₁.set x (.v v))
 |.newL x,_,ρ,k,_=>k (ρ.set x (.l []))
 |.newD x,_,ρ,k,_=>k (ρ.set x (.d []))
 |.newLi x es,β,ρ,k,_=>bW C G es β ρ fun l ρ₁=>k (ρ₁.set x (.l l))
 |.cpD x e,β,ρ,k,_=>kE C G e β ρ fun v ρ₁=>match v with
  |.dct kvs=>cond (xK kvs && Nat.ble kvs.length jA) (k (ρ₁.set x (.d kvs))) none
  |_=>none
 |.mtD x e,β,ρ,k,_=>kE C G e β ρ fun v ρ₁=>match v with
  |.tup l=>match l with
   |[]=>k (ρ₁.set x (.d []))
   |_=>none
  |_=>none
 |.unpE xs es,β,ρ,k,_=>rB C G es β ρ fun l ρ₁=>cond (Nat.beq xs.length l.length) (k (aW xs l ρ₁)) none
 |.unp xs e,β,ρ,k,_=>kE C G e β ρ fun v ρ₁=>match v with
  |.tup l=>fF xs.length l fun l=>k (aW xs (l.map .v) ρ₁)
  |_=>none
 |.setI n i e,β,ρ,k,_=>kE C G e β ρ fun v ρ₁=>cond (aJ i) (kE C G i β ρ₁ fun kk _=>match ρ₁.at n with
  |.d kvs=>cond (cC kk) (cond (Nat.ble kvs.length 1000) ((qP kk v kvs).bind fun w=>k (ρ₁.set n (.d w))) none) none
  |.l xs=>match kk with
   |.int (.ofNat j)=>cond (Nat.blt j xs.length) (cond (Nat.ble j 1000) (k (ρ₁.set n (.l (xs.set j v)))) none) none
   |_=>none
  |_=>none) none
 |.aug n e,β,ρ,k,_=>match ρ.at n with
  |.v x=>match x with
   |.int a=>kE C G e β ρ fun v ρ₁=>match v with
    |.int b=>k (ρ₁.set n (.v (.int (Int.add a b))))
    |_=>none
   |_=>none
  |_=>none
 |.app n e,β,ρ,k,_=>cond (aJ e) (kE C G e β ρ fun v _=>match ρ.at n with
  |.l xs=>cond (Nat.ble xs.length 1000) (k (ρ.set n (.l (List.append xs [v])))) none
  |_=>none) none
 |.ext n e,β,ρ,k,_=>cond (aJ e) (kE C G e β ρ fun v _=>match ρ.at n with
  |.l xs=>match v with
   |.lst ys=>cond (Nat.ble (Nat.add xs.length ys.length) 1000) (k (ρ.set n (.l (List.append xs ys)))) none
   |_=>none
  |_=>none) none
 |.ex e,β,ρ,k,_=>kE C G e β ρ fun v ρ₁=>match v with
  |.none=>k ρ₁
  |_=>none
 |.ret e,β,ρ,_,q=>kE C G e β ρ q
 |.ite t a b,β,ρ,k,q=>kE C G t β ρ fun v ρ₁=>dG v fun c=>cond c (aU a β ρ₁ k q) (aU b β ρ₁ k q)
 |.whl t b,β,ρ,k,q=>sU (fun σ again stop=>fE ρ.length σ fun τ=>kE C G t β τ fun v τ₁=>dG v fun c=>cond c (aU b β τ₁ again q) (stop τ₁)) (fun σ=>fE ρ.length σ k) 100 ρ
 |.for xs s b,β,ρ,k,q=>gJ C G s β ρ fun l ρ₁=>VW (fun x σ again=>fE ρ.length σ fun τ=>bE xs x τ fun τ₁=>aU b β τ₁ again q) (fun σ=>fE ρ.length σ k) l ρ₁
 |.tryS b,β,ρ,k,q=>aU b β ρ k q
noncomputable def aU:List S→(β:Type)→Fm→(Fm→Option β)→(V→Fm→Option β)→Option β
 |[],_,ρ,k,_=>k ρ
 |s::r,β,ρ,k,q=>kS s β ρ (fun ρ₁=>aU r β ρ₁ k q) q
end
noncomputable def aC (io:Bool)(v:V)(ρ:Fm):Option (V×aE):=cond io (cond (aP (ρ.at 0)) (some (v,ρ.at 0)) none) (some (v,.un))
noncomputable def hU (f:Fn)(args:List aE):Option (V×aE):=
 cond (Nat.beq args.length f.arity && VU f.io args)
  (aU C G f.body _ (args++List.replicate (f.vars.length - f.arity) .un) (aC f.io .none) (aC f.io)) none
end Mine.Internal
set_option genSizeOf true
set_option genInjectivity true
namespace Mine.Internal
noncomputable def glb:List V:=[(.tup [(.int 0),(.int 1)]),(.tup [(.int 1),(.int 1)]),(.tup [(.tup []),(.tup [(.int 0),(.int 1)]),(.int 0)]),(.tup [(.str 0),(.int 0),(.int 1)]),(.tup [(.str 0),(.int 1),(.int 1)]),(.tup [(.str 0),(.int (-1)),(.int 1)]),(.tup [(.str 0),(.int 0),(.int 1)]),(.tup [(.str 0),(.int 1),(.int 1)]),(.tup [(.str 5),(.str 6),(.tup [(.tup [(.str 0),(.int 1),(.int 1)])])]),(.str 20),(.str 23),(.int 3),(.int 24),(.tup [(.str 1),(.str 20)]),(.tup [(.str 1),(.str 21)]),(.tup [(.str 1),(.str 17)]),(.tup [(.str 0),(.int 1),(.int 2)]),(.tup [(.str 0),(.int (-1)),(.int 1)])]
noncomputable def jB:List Str:=["R0", "R1", "STILL", "T_ZERO", "T_ONE", "T_MINUS", "ZERO", "ONE", "EXP_ONE", "FAR", "LOW", "BEYOND", "MOST_MORE", "FAR_END", "LOW_END", "_law_x", "HALF", "MINUS_ONE"]
noncomputable def f_gcd:Fn:=⟨"gcd",2,false,["a", "b"],
 [.unpE [0,1] [.e (.bi1 .abs (.var 0)),.e (.bi1 .abs (.var 1))],.whl (.cmp .ne (.var 1) (.int 0)) [.unpE [0,1] [.e (.var 1),.e (.bin .mod (.var 0) (.var 1))]],.ret (.var 0)]⟩
noncomputable def f_rat:Fn:=⟨"rat",2,false,["top", "bottom", "g"],
 [.ite (.cmp .eq (.var 1) (.int 0)) [.bad] [],.asg 2 (.ite (.cmp .gt (.var 1) (.int 0)) (.call 0 [(.var 0),(.var 1)]) (.bin .sub (.int 0) (.call 0 [(.var 0),(.var 1)]))),.ret (.tup [(.bin .fdiv (.var 0) (.var 2)),(.bin .fdiv (.var 1) (.var 2))])]⟩
noncomputable def f_radd:Fn:=⟨"radd",2,false,["a", "b"],
 [.ret (.call 1 [(.bin .add (.bin .mul (.subN (.var 0) 0) (.subN (.var 1) 1)) (.bin .mul (.subN (.var 1) 0) (.subN (.var 0) 1))),(.bin .mul (.subN (.var 0) 1) (.subN (.var 1) 1))])]⟩
noncomputable def f_rsub:Fn:=⟨"rsub",2,false,["a", "b"],
 [.ret (.call 1 [(.bin .sub (.bin .mul (.subN (.var 0) 0) (.subN (.var 1) 1)) (.bin .mul (.subN (.var 1) 0) (.subN (.var 0) 1))),(.bin .mul (.subN (.var 0) 1) (.subN (.var 1) 1))])]⟩
noncomputable def f_rmul:Fn:=⟨"rmul",2,false,["a", "b"],
 [.ret (.call 1 [(.bin .mul (.subN (.var 0) 0) (.subN (.var 1) 0)),(.bin .mul (.subN (.var 0) 1) (.subN (.var 1) 1))])]⟩
noncomputable def f_rdiv:Fn:=⟨"rdiv",2,false,["a", "b"],
 [.ret (.call 1 [(.bin .mul (.subN (.var 0) 0) (.subN (.var 1) 1)),(.bin .mul (.subN (.var 0) 1) (.subN (.var 1) 0))])]⟩
noncomputable def f_rneg:Fn:=⟨"rneg",1,false,["a"],
 [.ret (.tup [(.bin .sub (.int 0) (.subN (.var 0) 0)),(.subN (.var 0) 1)])]⟩
noncomputable def f_rinv:Fn:=⟨"rinv",1,false,["a"],
 [.ret (.call 1 [(.subN (.var 0) 1),(.subN (.var 0) 0)])]⟩
noncomputable def f_rpower:Fn:=⟨"rpower",2,false,["a", "n"],
 [.ite (.cmp .lt (.var 1) (.int 0)) [.unpE [0,1] [.e (.call 7 [(.var 0)]),.e (.bin .sub (.int 0) (.var 1))]] [],.ret (.tup [(.bin .pow (.subN (.var 0) 0) (.var 1)),(.bin .pow (.subN (.var 0) 1) (.var 1))])]⟩
noncomputable def f_rcompare:Fn:=⟨"rcompare",2,false,["a", "b", "off"],
 [.asg 2 (.bin .sub (.bin .mul (.subN (.var 0) 0) (.subN (.var 1) 1)) (.bin .mul (.subN (.var 1) 0) (.subN (.var 0) 1))),.ret (.bin .sub (.cmp .gt (.var 2) (.int 0)) (.cmp .lt (.var 2) (.int 0)))]⟩
noncomputable def f_ginsert:Fn:=⟨"ginsert",3,true,["found", "kind", "number", "total"],
 [.asg 3 (.call 2 [(.dget 0 (.var 1) (.glob 0)),(.var 2)]),.ite (.cmp .eq (.var 3) (.glob 0)) [.ex (.dpop 0 (.var 1) .none)] [.setI 0 (.var 1) (.var 3)]]⟩
noncomputable def f_gadd:Fn:=⟨"gadd",2,false,["a", "b", "found", "kind"],
 [.cpD 2 (.var 0),.for [3] (.val (.var 1)) [.ex (.callO 10 2 [(.var 3),(.sub (.var 1) (.var 3))])],.ret (.frz 2)]⟩
noncomputable def f_poly_sum:Fn:=⟨"poly_sum",2,false,["one", "other", "found", "place", "number"],
 [.mtD 2 (.var 0),.for [3,4] (.val (.var 1)) [.setI 2 (.var 3) (.call 2 [(.dget 2 (.var 3) (.glob 0)),(.var 4)])],.ret (.bi1 .tuple (.comp 1 (.srtE 2) [.bad] .bad))]⟩
noncomputable def f_kind_product:Fn:=⟨"kind_product",2,false,["one", "other"],
 [.ret (.tup [(.call 12 [(.subN (.var 0) 0),(.subN (.var 1) 0)]),(.call 2 [(.subN (.var 0) 1),(.subN (.var 1) 1)]),(.bin .add (.subN (.var 0) 2) (.subN (.var 1) 2))])]⟩
noncomputable def f_gmul:Fn:=⟨"gmul",2,false,["a", "b", "found", "one", "other"],
 [.newD 2,.for [3] (.val (.var 0)) [.for [4] (.val (.var 1)) [.ex (.callO 10 2 [(.call 13 [(.var 3),(.var 4)]),(.call 4 [(.sub (.var 0) (.var 3)),(.sub (.var 1) (.var 4))])])]],.ret (.frz 2)]⟩
noncomputable def f_kind_compare:Fn:=⟨"kind_compare",2,false,["one", "other", "off", "order"],
 [.asg 2 (.call 12 [(.subN (.var 0) 0),(.bi1 .tuple (.comp 2 (.val (.subN (.var 1) 0)) [] (.tup [(.var 4),(.call 6 [(.var 5)])])))]),.ite (.cmp .gt (.bi1 .len (.var 2)) (.int 0)) [.ret (.ite (.cmp .gt (.subN (.subN (.sub (.var 2) (.neg (.int 1))) 1) 0) (.int 0)) (.int 1) (.neg (.int 1)))] [],.asg 3 (.call 9 [(.subN (.var 0) 1),(.subN (.var 1) 1)]),.ret (.ite (.cmp .ne (.var 3) (.int 0)) (.var 3) (.bin .sub (.cmp .gt (.subN (.var 0) 2) (.subN (.var 1) 2)) (.cmp .lt (.subN (.var 0) 2) (.subN (.var 1) 2))))]⟩
noncomputable def f_fastest:Fn:=⟨"fastest",1,false,["a", "found", "kind"],
 [.asg 1 .none,.for [2] (.val (.var 0)) [.ite (.or [(.isN (.var 1)),(.cmp .gt (.call 15 [(.var 2),(.var 1)]) (.int 0))]) [.asg 1 (.var 2)] []],.ret (.ite (.isN (.var 1)) .none (.tup [(.var 1),(.sub (.var 0) (.var 1))]))]⟩
noncomputable def f_gratio_power:Fn:=⟨"gratio_power",2,false,["told", "many", "top", "bottom", "found", "turn"],
 [.unp [2,3] (.ite (.cmp .ge (.var 1) (.int 0)) (.var 0) (.tup [(.subN (.var 0) 1),(.subN (.var 0) 0)])),.asg 4 (.tup [(.dct1 (.glob 2) (.glob 1)),(.dct1 (.glob 2) (.glob 1))]),.for [5] (.rng1 (.bi1 .abs (.var 1))) [.asg 4 (.tup [(.call 14 [(.subN (.var 4) 0),(.var 2)]),(.call 14 [(.subN (.var 4) 1),(.var 3)])])],.ret (.var 4)]⟩
noncomputable def f_growth_of:Fn:=⟨"growth_of",2,false,["t", "name", "found", "one", "told"],
 [.ite (.cmp .eq (.subN (.var 0) 0) (.str 0)) [.ret (.tup [(.ite (.cmp .ne (.subN (.var 0) 1) (.int 0)) (.dct1 (.glob 2) (.tup [(.subN (.var 0) 1),(.subN (.var 0) 2)])) .dct0),(.dct1 (.glob 2) (.glob 1))])] [],.ite (.and [(.cmp .eq (.subN (.var 0) 0) (.str 1)),(.cmp .eq (.subN (.var 0) 1) (.var 1))]) [.ret (.tup [(.dct1 (.tup [(.tup []),(.glob 1),(.int 0)]) (.glob 1)),(.dct1 (.glob 2) (.glob 1))])] [],.ite (.cmp .eq (.subN (.var 0) 0) (.str 2)) [.asg 2 (.tup [.dct0,(.dct1 (.glob 2) (.glob 1))]),.for [3] (.val (.subN (.var 0) 1)) [.asg 4 (.call 18 [(.var 3),(.var 1)]),.asg 2 (.tup [(.call 11 [(.call 14 [(.subN (.var 2) 0),(.subN (.var 4) 1)]),(.call 14 [(.subN (.var 4) 0),(.subN (.var 2) 1)])]),(.call 14 [(.subN (.var 2) 1),(.subN (.var 4) 1)])])],.ret (.var 2)] [],.ite (.cmp .eq (.subN (.var 0) 0) (.str 3)) [.asg 2 (.tup [(.dct1 (.glob 2) (.glob 1)),(.dct1 (.glob 2) (.glob 1))]),.for [3] (.val (.subN (.var 0) 1)) [.asg 4 (.call 18 [(.var 3),(.var 1)]),.asg 2 (.tup [(.call 14 [(.subN (.var 2) 0),(.subN (.var 4) 0)]),(.call 14 [(.subN (.var 2) 1),(.subN (.var 4) 1)])])],.ret (.var 2)] [],.ret (.call 19 [(.var 0),(.var 1)])]⟩
noncomputable def f_growth_of_other:Fn:=⟨"growth_of_other",2,false,["t", "name", "told"],
 [.ite (.and [(.cmp .eq (.subN (.var 0) 0) (.str 4)),(.cmp .eq (.subN (.subN (.var 0) 2) 0) (.str 0))]) [.asg 2 (.call 18 [(.subN (.var 0) 1),(.var 1)]),.ret (.ite (.cmp .eq (.subN (.subN (.var 0) 2) 2) (.int 1)) (.call 17 [(.var 2),(.subN (.subN (.var 0) 2) 1)]) .bad)] [],.ite (.and [(.cmp .eq (.subN (.var 0) 0) (.str 5)),(.cmp .eq (.subN (.var 0) 1) (.str 6)),(.cmp .eq (.bi1 .len (.subN (.var 0) 2)) (.int 1))]) [.asg 2 (.call 18 [(.subN (.subN (.var 0) 2) 0),(.var 1)]),.ite (.cmp .ne (.subN (.var 2) 1) (.dct1 (.glob 2) (.glob 1))) [.bad] [],.bad] [],.ite (.and [(.cmp .eq (.subN (.var 0) 0) (.str 5)),(.cmp .eq (.subN (.var 0) 1) (.str 7)),(.cmp .eq (.subN (.var 0) 2) (.tup [(.tup [(.str 1),(.var 1)])]))]) [.ret (.tup [(.dct1 (.tup [(.tup []),(.glob 0),(.int 1)]) (.glob 1)),(.dct1 (.glob 2) (.glob 1))])] [],.ite (.and [(.cmp .eq (.subN (.var 0) 0) (.str 5)),(.cmp .eq (.subN (.var 0) 1) (.str 8)),(.cmp .eq (.bi1 .len (.subN (.var 0) 2)) (.int 1))]) [.bad] [],.bad]⟩
noncomputable def f_far_limit:Fn:=⟨"far_limit",1,false,["told", "above", "below", "order", "number"],
 [.unpE [1,2] [.e (.call 16 [(.subN (.var 0) 0)]),.e (.call 16 [(.subN (.var 0) 1)])],.ite (.isN (.var 2)) [.bad] [],.ite (.isN (.var 1)) [.ret (.glob 0)] [],.asg 3 (.call 15 [(.subN (.var 1) 0),(.subN (.var 2) 0)]),.asg 4 (.call 4 [(.subN (.var 1) 1),(.call 8 [(.subN (.var 2) 1),(.neg (.int 1))])]),.ite (.cmp .eq (.var 3) (.int 0)) [.ret (.var 4)] [],.ite (.cmp .lt (.var 3) (.int 0)) [.ret (.glob 0)] [],.ret (.ite (.cmp .gt (.subN (.var 4) 0) (.int 0)) (.str 20) (.str 23))]⟩
noncomputable def f_cut:Fn:=⟨"cut",2,false,["a", "order"],
 [.ret (.bin .add (.bi1 .list (.slcHi (.var 0) (.var 1))) (.bin .mul (.lst [(.glob 0)]) (.bin .sub (.var 1) (.bi1 .len (.var 0)))))]⟩
noncomputable def f_sadd:Fn:=⟨"sadd",2,false,["a", "b"],
 [.ret (.comp 1 (.rng1 (.bi2 .min (.bi1 .len (.var 0)) (.bi1 .len (.var 1)))) [] (.call 2 [(.sub (.var 0) (.var 2)),(.sub (.var 1) (.var 2))]))]⟩
noncomputable def f_mixed:Fn:=⟨"mixed",3,false,["a", "b", "at", "found", "spot"],
 [.asg 3 (.glob 0),.for [4] (.rng1 (.bin .add (.var 2) (.int 1))) [.ite (.and [(.cmp .ne (.sub (.var 0) (.var 4)) (.glob 0)),(.cmp .ne (.sub (.var 1) (.bin .sub (.var 2) (.var 4))) (.glob 0))]) [.asg 3 (.call 2 [(.var 3),(.call 4 [(.sub (.var 0) (.var 4)),(.sub (.var 1) (.bin .sub (.var 2) (.var 4)))])])] []],.ret (.var 3)]⟩
noncomputable def f_smul:Fn:=⟨"smul",2,false,["a", "b"],
 [.ret (.comp 1 (.rng1 (.bi2 .min (.bi1 .len (.var 0)) (.bi1 .len (.var 1)))) [] (.call 23 [(.var 0),(.var 1),(.var 2)]))]⟩
noncomputable def f_sinverse:Fn:=⟨"sinverse",1,false,["a", "found", "at", "total", "spot"],
 [.ite (.and [(.cmp .gt (.bi1 .len (.var 0)) (.int 0)),(.cmp .eq (.subN (.var 0) 0) (.glob 0))]) [.bad] [],.newL 1,.for [2] (.rng1 (.bi1 .len (.var 0))) [.asg 3 (.ite (.cmp .eq (.var 2) (.int 0)) (.glob 1) (.glob 0)),.for [4] (.rng2 (.int 1) (.bin .add (.var 2) (.int 1))) [.asg 3 (.call 3 [(.var 3),(.call 4 [(.sub (.var 0) (.var 4)),(.subO 1 (.bin .sub (.var 2) (.var 4)))])])],.app 1 (.call 5 [(.var 3),(.subN (.var 0) 0)])],.ret (.frz 1)]⟩
noncomputable def f_need_begin:Fn:=⟨"need_begin",2,false,["a", "number"],
 [.ite (.and [(.cmp .gt (.bi1 .len (.var 0)) (.int 0)),(.cmp .ne (.call 9 [(.subN (.var 0) 0),(.var 1)]) (.int 0))]) [.bad] []]⟩
noncomputable def f_sexp:Fn:=⟨"sexp",1,false,["a", "found", "at", "total", "spot"],
 [.ex (.call 26 [(.var 0),(.glob 0)]),.newL 1,.for [2] (.rng1 (.bi1 .len (.var 0))) [.asg 3 (.glob 0),.for [4] (.rng2 (.int 1) (.bin .add (.var 2) (.int 1))) [.asg 3 (.call 2 [(.var 3),(.call 4 [(.call 4 [(.tup [(.var 4),(.int 1)]),(.sub (.var 0) (.var 4))]),(.subO 1 (.bin .sub (.var 2) (.var 4)))])])],.app 1 (.ite (.cmp .eq (.var 2) (.int 0)) (.glob 1) (.call 5 [(.var 3),(.tup [(.var 2),(.int 1)])]))],.ret (.frz 1)]⟩
noncomputable def f_ssin_cos:Fn:=⟨"ssin_cos",1,false,["a", "sines", "others", "at", "one", "other", "spot", "moved"],
 [.ex (.call 26 [(.var 0),(.glob 0)]),.unpE [1,2] [.newL,.newL],.for [3] (.rng1 (.bi1 .len (.var 0))) [.unpE [4,5] [.e (.glob 0),.e (.glob 0)],.for [6] (.rng2 (.int 1) (.bin .add (.var 3) (.int 1))) [.asg 7 (.call 4 [(.tup [(.var 6),(.int 1)]),(.sub (.var 0) (.var 6))]),.asg 4 (.call 2 [(.var 4),(.call 4 [(.var 7),(.subO 2 (.bin .sub (.var 3) (.var 6)))])]),.asg 5 (.call 3 [(.var 5),(.call 4 [(.var 7),(.subO 1 (.bin .sub (.var 3) (.var 6)))])])],.app 1 (.ite (.cmp .eq (.var 3) (.int 0)) (.glob 0) (.call 5 [(.var 4),(.tup [(.var 3),(.int 1)])])),.app 2 (.ite (.cmp .eq (.var 3) (.int 0)) (.glob 1) (.call 5 [(.var 5),(.tup [(.var 3),(.int 1)])]))],.ret (.tup [(.frz 1),(.frz 2)])]⟩
noncomputable def f_ssin:Fn:=⟨"ssin",1,false,["a"],
 [.ret (.subN (.call 28 [(.var 0)]) 0)]⟩
noncomputable def f_swhole_power:Fn:=⟨"swhole_power",2,false,["a", "many", "base", "found", "left"],
 [.asg 2 (.ite (.cmp .lt (.var 1) (.int 0)) (.call 25 [(.var 0)]) (.var 0)),.unpE [3,4] [.e (.call 21 [(.lst [(.glob 1)]),(.bi1 .len (.var 0))]),.e (.bi1 .abs (.var 1))],.whl (.cmp .gt (.var 4) (.int 0)) [.ite (.cmp .eq (.bin .mod (.var 4) (.int 2)) (.int 1)) [.asg 3 (.call 24 [(.var 3),(.var 2)])] [],.asg 2 (.call 24 [(.var 2),(.var 2)]),.asg 4 (.bin .fdiv (.var 4) (.int 2))],.ret (.var 3)]⟩
noncomputable def f_lplain:Fn:=⟨"lplain",2,false,["number", "many"],
 [.ret (.tup [(.int 0),(.bin .add (.lst [(.var 0)]) (.bin .mul (.lst [(.glob 0)]) (.bin .sub (.var 1) (.int 1))))])]⟩
noncomputable def f_lmoved:Fn:=⟨"lmoved",2,false,["a", "low"],
 [.ret (.tup [(.var 1),(.bin .add (.bin .mul (.lst [(.glob 0)]) (.bin .sub (.subN (.var 0) 0) (.var 1))) (.subN (.var 0) 1))])]⟩
noncomputable def f_ladd:Fn:=⟨"ladd",2,false,["a", "b", "low"],
 [.asg 2 (.bi2 .min (.subN (.var 0) 0) (.subN (.var 1) 0)),.ret (.tup [(.var 2),(.call 22 [(.subN (.call 32 [(.var 0),(.var 2)]) 1),(.subN (.call 32 [(.var 1),(.var 2)]) 1)])])]⟩
noncomputable def f_lmul:Fn:=⟨"lmul",2,false,["a", "b"],
 [.ret (.tup [(.bin .add (.subN (.var 0) 0) (.subN (.var 1) 0)),(.call 24 [(.subN (.var 0) 1),(.subN (.var 1) 1)])])]⟩
noncomputable def f_ltrim:Fn:=⟨"ltrim",1,false,["a", "low", "rest"],
 [.unp [1,2] (.var 0),.whl (.and [(.cmp .gt (.bi1 .len (.var 2)) (.int 0)),(.cmp .eq (.subN (.var 2) 0) (.glob 0))]) [.unpE [1,2] [.e (.bin .add (.var 1) (.int 1)),.e (.slcLo (.var 2) (.int 1))]],.ret (.tup [(.var 1),(.var 2)])]⟩
noncomputable def f_linverse:Fn:=⟨"linverse",1,false,["a", "low", "rest"],
 [.unp [1,2] (.call 35 [(.var 0)]),.ite (.cmp .eq (.bi1 .len (.var 2)) (.int 0)) [.bad] [],.ret (.tup [(.bin .sub (.int 0) (.var 1)),(.call 25 [(.var 2)])])]⟩
noncomputable def f_lpower:Fn:=⟨"lpower",2,false,["a", "many", "low", "rest"],
 [.ite (.cmp .eq (.var 1) (.int 0)) [.ret (.tup [(.int 0),(.bin .add (.lst [(.glob 1)]) (.bin .mul (.lst [(.glob 0)]) (.bin .sub (.bi1 .len (.subN (.var 0) 1)) (.int 1))))])] [],.ite (.cmp .lt (.var 1) (.int 0)) [.ret (.call 37 [(.call 36 [(.var 0)]),(.bin .sub (.int 0) (.var 1))])] [],.unp [2,3] (.call 35 [(.var 0)]),.ret (.tup [(.bin .mul (.var 2) (.var 1)),(.call 30 [(.var 3),(.var 1)])])]⟩
noncomputable def f_lcut:Fn:=⟨"lcut",2,false,["a", "end", "low", "rest"],
 [.unp [2,3] (.call 35 [(.var 0)]),.ite (.and [(.cmp .gt (.bi1 .len (.var 3)) (.int 0)),(.cmp .lt (.var 2) (.int 0))]) [.bad] [],.ite (.cmp .lt (.bin .add (.var 2) (.bi1 .len (.var 3))) (.var 1)) [.ret .none] [],.ret (.ite (.cmp .ge (.var 2) (.int 0)) (.slcHi (.bin .add (.bin .mul (.lst [(.glob 0)]) (.var 2)) (.var 3)) (.var 1)) (.bin .mul (.lst [(.glob 0)]) (.var 1)))]⟩
noncomputable def f_from_zero:Fn:=⟨"from_zero",1,false,["told", "low", "rest"],
 [.unp [1,2] (.call 35 [(.var 0)]),.ite (.and [(.cmp .lt (.var 1) (.int 0)),(.cmp .gt (.bi1 .len (.var 2)) (.int 0))]) [.bad] [],.ret (.bin .add (.bin .mul (.lst [(.glob 0)]) (.bi2 .max (.var 1) (.int 0))) (.var 2))]⟩
noncomputable def f_of_call:Fn:=⟨"of_call",2,false,["name", "told", "inner"],
 [.asg 2 (.call 39 [(.var 1)]),.ite (.cmp .eq (.var 0) (.str 6)) [.ret (.tup [(.int 0),(.call 27 [(.var 2)])])] [],.ite (.cmp .eq (.var 0) (.str 7)) [.bad] [],.ite (.cmp .eq (.var 0) (.str 9)) [.ret (.tup [(.int 0),(.call 29 [(.var 2)])])] [],.ite (.cmp .eq (.var 0) (.str 10)) [.bad] [],.ite (.cmp .eq (.var 0) (.str 11)) [.bad] [],.ite (.cmp .eq (.var 0) (.str 12)) [.bad] [],.ite (.cmp .eq (.var 0) (.str 8)) [.bad] [],.bad]⟩
noncomputable def f_of_power:Fn:=⟨"of_power",4,false,["base", "exponent", "many", "letter", "told"],
 [.ite (.cmp .ne (.subN (.var 1) 0) (.str 0)) [.bad] [],.asg 4 (.call 42 [(.var 0),(.var 2),(.var 3)]),.ite (.cmp .eq (.subN (.var 1) 2) (.int 1)) [.ret (.call 37 [(.var 4),(.subN (.var 1) 1)])] [],.bad]⟩
noncomputable def f_of_term:Fn:=⟨"of_term",3,false,["t", "many", "letter", "found", "one", "told"],
 [.ite (.cmp .eq (.subN (.var 0) 0) (.str 0)) [.ret (.call 31 [(.tup [(.subN (.var 0) 1),(.subN (.var 0) 2)]),(.var 1)])] [],.ite (.cmp .eq (.subN (.var 0) 0) (.str 1)) [.ite (.cmp .ne (.subN (.var 0) 1) (.subN (.var 2) 0)) [.bad] [],.ret (.tup [(.subN (.subN (.var 2) 1) 0),(.bin .add (.subN (.subN (.var 2) 1) 1) (.bin .mul (.lst [(.glob 0)]) (.bin .sub (.var 1) (.bi1 .len (.subN (.subN (.var 2) 1) 1)))))])] [],.ite (.cmp .eq (.subN (.var 0) 0) (.str 4)) [.ret (.call 41 [(.subN (.var 0) 1),(.subN (.var 0) 2),(.var 1),(.var 2)])] [],.ite (.and [(.cmp .eq (.subN (.var 0) 0) (.str 5)),(.cmp .eq (.bi1 .len (.subN (.var 0) 2)) (.int 1))]) [.ret (.call 40 [(.subN (.var 0) 1),(.call 42 [(.subN (.subN (.var 0) 2) 0),(.var 1),(.var 2)])])] [],.ite (.inS false (.subN (.var 0) 0) [2,3]) [.bad] [],.asg 3 (.call 31 [(.ite (.cmp .eq (.subN (.var 0) 0) (.str 2)) (.glob 0) (.glob 1)),(.var 1)]),.for [4] (.val (.subN (.var 0) 1)) [.asg 5 (.call 42 [(.var 4),(.var 1),(.var 2)]),.asg 3 (.ite (.cmp .eq (.subN (.var 0) 0) (.str 2)) (.call 33 [(.var 3),(.var 5)]) (.call 34 [(.var 3),(.var 5)]))],.ret (.var 3)]⟩
noncomputable def f_laurent_of:Fn:=⟨"laurent_of",3,false,["t", "letter", "end", "more", "found", "e"],
 [.asg 3 (.int 2),.whl (.cmp .le (.var 3) (.glob 12)) [.tryS [.asg 4 (.call 42 [(.var 0),(.bin .add (.bi2 .max (.var 2) (.int 1)) (.var 3)),(.var 1)]),.ite (.cmp .ge (.bin .add (.subN (.var 4) 0) (.bi1 .len (.subN (.var 4) 1))) (.var 2)) [.ret (.var 4)] []],.asg 3 (.bin .mul (.var 3) (.int 2))],.bad]⟩
noncomputable def f_series_of:Fn:=⟨"series_of",4,false,["t", "name", "at", "order", "found"],
 [.asg 4 (.call 38 [(.call 43 [(.var 0),(.tup [(.var 1),(.tup [(.int 0),(.lst [(.var 2),(.glob 1)])])]),(.var 3)]),(.var 3)]),.ite (.isN (.var 4)) [.bad] [],.ret (.var 4)]⟩
noncomputable def f_from_begin:Fn:=⟨"from_begin",2,false,["told", "side", "low", "rest", "is_odd", "is_up"],
 [.unp [2,3] (.call 35 [(.var 0)]),.ite (.or [(.cmp .eq (.bi1 .len (.var 3)) (.int 0)),(.cmp .gt (.var 2) (.int 0))]) [.ret (.glob 0)] [],.ite (.cmp .eq (.var 2) (.int 0)) [.ret (.subN (.var 3) 0)] [],.asg 4 (.cmp .eq (.bin .mod (.var 2) (.int 2)) (.int 1)),.ite (.and [(.var 4),(.cmp .eq (.var 1) (.int 0))]) [.ret .none] [],.asg 5 (.cmp .ne (.cmp .gt (.subN (.subN (.var 3) 0) 0) (.int 0)) (.and [(.var 4),(.cmp .lt (.var 1) (.int 0))])),.ret (.ite (.var 5) (.glob 9) (.glob 10))]⟩
noncomputable def f_limit_near:Fn:=⟨"limit_near",4,false,["t", "name", "at", "side"],
 [.ret (.call 45 [(.call 43 [(.var 0),(.tup [(.var 1),(.tup [(.int 0),(.lst [(.var 2),(.glob 1)])])]),(.glob 11)]),(.var 3)])]⟩
noncomputable def f_mirrored:Fn:=⟨"mirrored",2,false,["t", "name"],
 [.ite (.cmp .eq (.subN (.var 0) 0) (.str 1)) [.ret (.ite (.cmp .eq (.subN (.var 0) 1) (.var 1)) (.tup [(.str 3),(.tup [(.tup [(.str 0),(.neg (.int 1)),(.int 1)]),(.var 0)])]) (.var 0))] [],.ite (.inS true (.subN (.var 0) 0) [2,3]) [.ret (.tup [(.subN (.var 0) 0),(.bi1 .tuple (.comp 1 (.val (.subN (.var 0) 1)) [] (.call 47 [(.var 2),(.var 1)])))])] [],.ite (.cmp .eq (.subN (.var 0) 0) (.str 4)) [.ret (.tup [(.str 4),(.call 47 [(.subN (.var 0) 1),(.var 1)]),(.call 47 [(.subN (.var 0) 2),(.var 1)])])] [],.ite (.cmp .eq (.subN (.var 0) 0) (.str 5)) [.ret (.tup [(.str 5),(.subN (.var 0) 1),(.bi1 .tuple (.comp 1 (.val (.subN (.var 0) 2)) [] (.call 47 [(.var 2),(.var 1)])))])] [],.ret (.var 0)]⟩
noncomputable def f_limit_far:Fn:=⟨"limit_far",3,false,["t", "name", "is_above", "e", "first"],
 [.tryS [.ret (.call 20 [(.call 18 [(.ite (.var 2) (.var 0) (.call 47 [(.var 0),(.var 1)])),(.var 1)])])],.asg 4 (.ite (.var 2) (.glob 1) (.tup [(.neg (.int 1)),(.int 1)])),.ret (.call 45 [(.call 43 [(.var 0),(.tup [(.var 1),(.tup [(.neg (.int 1)),(.lst [(.var 4)])])]),(.glob 11)]),(.int 1)])]⟩
noncomputable def f_limit:Fn:=⟨"limit",4,false,["t", "name", "at", "side"],
 [.ite (.or [(.cmp .eq (.var 2) (.glob 9)),(.cmp .eq (.var 2) (.glob 10))]) [.ret (.call 48 [(.var 0),(.var 1),(.cmp .eq (.var 2) (.glob 9))])] [],.ret (.call 46 [(.var 0),(.var 1),(.var 2),(.var 3)])]⟩
noncomputable def f_t_num:Fn:=⟨"t_num",2,false,["top", "bottom", "told"],
 [.asg 2 (.call 1 [(.var 0),(.var 1)]),.ret (.tup [(.str 0),(.subN (.var 2) 0),(.subN (.var 2) 1)])]⟩
noncomputable def f_t_sym:Fn:=⟨"t_sym",1,false,["name"],
 [.ret (.tup [(.str 1),(.var 0)])]⟩
noncomputable def f_t_sum:Fn:=⟨"t_sum",1,false,["some_terms"],
 [.ite (.cmp .eq (.bi1 .len (.var 0)) (.int 0)) [.ret (.glob 3)] [],.ret (.ite (.cmp .eq (.bi1 .len (.var 0)) (.int 1)) (.subN (.var 0) 0) (.tup [(.str 2),(.bi1 .tuple (.var 0))]))]⟩
noncomputable def f_t_prod:Fn:=⟨"t_prod",1,false,["some_terms"],
 [.ite (.cmp .eq (.bi1 .len (.var 0)) (.int 0)) [.ret (.glob 4)] [],.ret (.ite (.cmp .eq (.bi1 .len (.var 0)) (.int 1)) (.subN (.var 0) 0) (.tup [(.str 3),(.bi1 .tuple (.var 0))]))]⟩
noncomputable def f_t_pow:Fn:=⟨"t_pow",2,false,["base", "exponent"],
 [.ret (.tup [(.str 4),(.var 0),(.var 1)])]⟩
noncomputable def f_t_minus:Fn:=⟨"t_minus",1,false,["term"],
 [.ret (.tup [(.str 3),(.tup [(.glob 5),(.var 0)])])]⟩
noncomputable def f_is_num:Fn:=⟨"is_num",1,false,["term"],
 [.ret (.cmp .eq (.subN (.var 0) 0) (.str 0))]⟩
noncomputable def f_num_of:Fn:=⟨"num_of",1,false,["term"],
 [.ret (.tup [(.subN (.var 0) 1),(.subN (.var 0) 2)])]⟩
noncomputable def f_is_whole_num:Fn:=⟨"is_whole_num",1,false,["term"],
 [.ret (.and [(.cmp .eq (.subN (.var 0) 0) (.str 0)),(.cmp .eq (.subN (.var 0) 2) (.int 1))])]⟩
noncomputable def f_sign_between:Fn:=⟨"sign_between",2,false,["one", "other"],
 [.ite (.cmp .eq (.var 0) (.var 1)) [.ret (.int 0)] [],.ret (.ite (.cmp .lt (.var 0) (.var 1)) (.neg (.int 1)) (.int 1))]⟩
noncomputable def f_compare_values:Fn:=⟨"compare_values",2,false,["one", "other"],
 [.ret (.call 59 [(.bin .mul (.subN (.var 0) 0) (.subN (.var 1) 1)),(.bin .mul (.subN (.var 1) 0) (.subN (.var 0) 1))])]⟩
noncomputable def f_bare_factors:Fn:=⟨"bare_factors",1,false,["term"],
 [.ite (.cmp .ne (.subN (.var 0) 0) (.str 3)) [.ret (.lst [(.var 0)])] [],.ret (.comp 1 (.val (.subN (.var 0) 1)) [(.not (.call 56 [(.var 1)]))] (.var 1))]⟩
noncomputable def f_front_value:Fn:=⟨"front_value",1,false,["term"],
 [.ite (.and [(.cmp .eq (.subN (.var 0) 0) (.str 3)),(.call 56 [(.subN (.subN (.var 0) 1) 0)])]) [.ret (.call 57 [(.subN (.subN (.var 0) 1) 0)])] [],.ret (.tup [(.int 1),(.int 1)])]⟩
noncomputable def f_base_and_exponent:Fn:=⟨"base_and_exponent",1,false,["term"],
 [.ret (.ite (.cmp .eq (.subN (.var 0) 0) (.str 4)) (.tup [(.subN (.var 0) 1),(.subN (.var 0) 2)]) (.tup [(.var 0),(.glob 4)]))]⟩
noncomputable def f_compare_rows:Fn:=⟨"compare_rows",2,false,["ones", "others", "at", "found"],
 [.for [2] (.rng1 (.bi2 .min (.bi1 .len (.var 0)) (.bi1 .len (.var 1)))) [.asg 3 (.call 68 [(.sub (.var 0) (.var 2)),(.sub (.var 1) (.var 2))]),.ite (.cmp .ne (.var 3) (.int 0)) [.ret (.var 3)] []],.ret (.call 59 [(.bi1 .len (.var 1)),(.bi1 .len (.var 0))])]⟩
noncomputable def f_compare_exponents:Fn:=⟨"compare_exponents",2,false,["one", "other"],
 [.ite (.and [(.call 56 [(.var 0)]),(.call 56 [(.var 1)])]) [.ret (.call 60 [(.call 57 [(.var 1)]),(.call 57 [(.var 0)])])] [],.ite (.cmp .ne (.call 56 [(.var 0)]) (.call 56 [(.var 1)])) [.ret (.ite (.call 56 [(.var 0)]) (.int 1) (.neg (.int 1)))] [],.ret (.call 68 [(.var 0),(.var 1)])]⟩
noncomputable def f_compare_bases:Fn:=⟨"compare_bases",2,false,["one", "other", "found", "kind"],
 [.asg 2 (.call 59 [(.rank (.subN (.var 0) 0)),(.rank (.subN (.var 1) 0))]),.ite (.cmp .ne (.var 2) (.int 0)) [.ret (.var 2)] [],.asg 3 (.subN (.var 0) 0),.ite (.cmp .eq (.var 3) (.str 0)) [.ret (.call 60 [(.call 57 [(.var 0)]),(.call 57 [(.var 1)])])] [],.ite (.cmp .eq (.var 3) (.str 1)) [.ret (.call 59 [(.subN (.var 0) 1),(.subN (.var 1) 1)])] [],.ite (.cmp .eq (.var 3) (.str 5)) [.asg 2 (.call 59 [(.subN (.var 0) 1),(.subN (.var 1) 1)]),.ret (.ite (.cmp .ne (.var 2) (.int 0)) (.var 2) (.call 64 [(.subN (.var 0) 2),(.subN (.var 1) 2)]))] [],.ite (.inS true (.var 3) [2,3,16]) [.ret (.call 64 [(.subN (.var 0) 1),(.subN (.var 1) 1)])] [],.ret (.call 64 [(.slcLo (.var 0) (.int 1)),(.slcLo (.var 1) (.int 1))])]⟩
noncomputable def f_compare_factors:Fn:=⟨"compare_factors",2,false,["one", "other", "base", "exponent", "other_base", "other_exponent", "found"],
 [.unp [2,3] (.call 63 [(.var 0)]),.unp [4,5] (.call 63 [(.var 1)]),.asg 6 (.call 66 [(.var 2),(.var 4)]),.ret (.ite (.cmp .ne (.var 6) (.int 0)) (.var 6) (.call 65 [(.var 3),(.var 5)]))]⟩
noncomputable def f_compare_terms:Fn:=⟨"compare_terms",2,false,["one", "other", "ones", "others", "at", "found"],
 [.ite (.and [(.call 56 [(.var 0)]),(.call 56 [(.var 1)])]) [.ret (.call 60 [(.call 57 [(.var 0)]),(.call 57 [(.var 1)])])] [],.ite (.cmp .ne (.call 56 [(.var 0)]) (.call 56 [(.var 1)])) [.ret (.ite (.call 56 [(.var 0)]) (.int 1) (.neg (.int 1)))] [],.unpE [2,3] [.e (.call 61 [(.var 0)]),.e (.call 61 [(.var 1)])],.for [4] (.rng1 (.bi2 .min (.bi1 .len (.var 2)) (.bi1 .len (.var 3)))) [.asg 5 (.call 67 [(.sub (.var 2) (.var 4)),(.sub (.var 3) (.var 4))]),.ite (.cmp .ne (.var 5) (.int 0)) [.ret (.var 5)] []],.asg 5 (.call 59 [(.bi1 .len (.var 3)),(.bi1 .len (.var 2))]),.ret (.ite (.cmp .ne (.var 5) (.int 0)) (.var 5) (.call 60 [(.call 62 [(.var 0)]),(.call 62 [(.var 1)])]))]⟩
noncomputable def f_merged_terms:Fn:=⟨"merged_terms",2,false,["ones", "others", "found", "at", "spot", "is_first"],
 [.unpE [2,3,4] [.newL,.e (.int 0),.e (.int 0)],.whl (.or [(.cmp .lt (.var 3) (.bi1 .len (.var 0))),(.cmp .lt (.var 4) (.bi1 .len (.var 1)))]) [.asg 5 (.or [(.cmp .ge (.var 4) (.bi1 .len (.var 1))),(.and [(.cmp .lt (.var 3) (.bi1 .len (.var 0))),(.cmp .le (.call 68 [(.sub (.var 0) (.var 3)),(.sub (.var 1) (.var 4))]) (.int 0))])]),.ite (.var 5) [.app 2 (.sub (.var 0) (.var 3)),.aug 3 (.int 1)] [.app 2 (.sub (.var 1) (.var 4)),.aug 4 (.int 1)]],.ret (.frz 2)]⟩
noncomputable def f_sort_terms:Fn:=⟨"sort_terms",1,false,["some_terms", "middle"],
 [.ite (.cmp .lt (.bi1 .len (.var 0)) (.int 2)) [.ret (.bi1 .list (.var 0))] [],.asg 1 (.bin .fdiv (.bi1 .len (.var 0)) (.int 2)),.ret (.call 69 [(.call 70 [(.slcHi (.var 0) (.var 1))]),(.call 70 [(.slcLo (.var 0) (.var 1))])])]⟩
noncomputable def f_number_term:Fn:=⟨"number_term",1,false,["r"],
 [.ret (.tup [(.str 0),(.subN (.var 0) 0),(.subN (.var 0) 1)])]⟩
noncomputable def f_number_and_rest:Fn:=⟨"number_and_rest",1,false,["t", "rest"],
 [.ite (.cmp .eq (.subN (.var 0) 0) (.str 0)) [.ret (.tup [(.tup [(.subN (.var 0) 1),(.subN (.var 0) 2)]),(.glob 7)])] [],.ite (.or [(.cmp .ne (.subN (.var 0) 0) (.str 3)),(.cmp .ne (.subN (.subN (.subN (.var 0) 1) 0) 0) (.str 0))]) [.ret (.tup [(.tup [(.int 1),(.int 1)]),(.var 0)])] [],.asg 1 (.ite (.cmp .eq (.bi1 .len (.subN (.var 0) 1)) (.int 2)) (.subN (.subN (.var 0) 1) 1) (.tup [(.str 3),(.slcLo (.subN (.var 0) 1) (.int 1))])),.ret (.tup [(.tup [(.subN (.subN (.subN (.var 0) 1) 0) 1),(.subN (.subN (.subN (.var 0) 1) 0) 2)]),(.var 1)])]⟩
noncomputable def f_with_number:Fn:=⟨"with_number",2,false,["r", "rest"],
 [.ite (.or [(.cmp .eq (.subN (.var 0) 0) (.int 0)),(.cmp .eq (.var 1) (.glob 7))]) [.ret (.call 71 [(.var 0)])] [],.ite (.cmp .eq (.var 0) (.tup [(.int 1),(.int 1)])) [.ret (.var 1)] [],.ret (.tup [(.str 3),(.bin .add (.tup [(.call 71 [(.var 0)])]) (.ite (.cmp .eq (.subN (.var 1) 0) (.str 3)) (.subN (.var 1) 1) (.tup [(.var 1)])))])]⟩
noncomputable def f_flat_parts:Fn:=⟨"flat_parts",2,false,["parts", "kind", "found", "part"],
 [.newL 2,.for [3] (.val (.var 0)) [.ext 2 (.ite (.cmp .eq (.subN (.var 3) 0) (.var 1)) (.bi1 .list (.subN (.var 3) 1)) (.lst [(.var 3)]))],.ret (.frz 2)]⟩
noncomputable def f_gathered_sum:Fn:=⟨"gathered_sum",1,false,["parts", "counts", "part", "r", "rest", "number", "found"],
 [.newD 1,.for [2] (.val (.call 74 [(.var 0),(.str 2)])) [.unp [3,4] (.call 72 [(.var 2)]),.setI 1 (.var 4) (.call 2 [(.dget 1 (.var 4) (.tup [(.int 0),(.int 1)])),(.var 3)])],.asg 5 (.dpop 1 (.glob 7) (.tup [(.int 0),(.int 1)])),.asg 6 (.comp 2 (.itm 1) [(.cmp .ne (.subN (.var 8) 0) (.int 0))] (.call 73 [(.var 8),(.var 7)])),.ite (.cmp .gt (.bi1 .len (.comp 1 (.val (.var 6)) [(.cmp .eq (.subN (.var 7) 0) (.str 2))] (.var 7))) (.int 0)) [.ret (.call 75 [(.bin .add (.var 6) (.lst [(.call 71 [(.var 5)])]))])] [],.asg 6 (.bin .add (.call 70 [(.var 6)]) (.ite (.cmp .ne (.subN (.var 5) 0) (.int 0)) (.lst [(.call 71 [(.var 5)])]) (.lst []))),.ite (.cmp .eq (.bi1 .len (.var 6)) (.int 0)) [.ret (.glob 6)] [],.ret (.ite (.cmp .eq (.bi1 .len (.var 6)) (.int 1)) (.subN (.var 6) 0) (.tup [(.str 2),(.bi1 .tuple (.var 6))]))]⟩
noncomputable def f_as_power:Fn:=⟨"as_power",1,false,["t"],
 [.ite (.cmp .eq (.subN (.var 0) 0) (.str 4)) [.ret (.tup [(.subN (.var 0) 1),(.subN (.var 0) 2)])] [],.ite (.and [(.cmp .eq (.subN (.var 0) 0) (.str 5)),(.cmp .eq (.subN (.var 0) 1) (.str 6))]) [.ret (.tup [(.glob 8),(.subN (.subN (.var 0) 2) 0)])] [],.ret (.tup [(.var 0),(.glob 7)])]⟩
noncomputable def f_gathered_product:Fn:=⟨"gathered_product",1,false,["parts", "number", "exponents", "part", "base", "exponent", "found", "is_done", "made"],
 [.unpE [1,2] [.e (.tup [(.int 1),(.int 1)]),.newD],.for [3] (.val (.call 74 [(.var 0),(.str 3)])) [.ite (.cmp .eq (.subN (.var 3) 0) (.str 0)) [.asg 1 (.call 4 [(.var 1),(.tup [(.subN (.var 3) 1),(.subN (.var 3) 2)])])] [.unp [4,5] (.call 76 [(.var 3)]),.setI 2 (.var 4) (.call 75 [(.lst [(.dget 2 (.var 4) (.glob 6)),(.var 5)])])]],.ite (.cmp .eq (.subN (.var 1) 0) (.int 0)) [.ret (.glob 6)] [],.unpE [6,7] [.newL,.e (.bool true)],.for [4,5] (.itm 2) [.asg 8 (.call 78 [(.var 4),(.var 5)]),.ite (.cmp .eq (.subN (.var 8) 0) (.str 0)) [.asg 1 (.call 4 [(.var 1),(.tup [(.subN (.var 8) 1),(.subN (.var 8) 2)])])] [.asg 7 (.and [(.var 7),(.cmp .ne (.subN (.var 8) 0) (.str 3)),(.cmp .eq (.subN (.call 76 [(.var 8)]) 0) (.var 4))]),.app 6 (.var 8)]],.ite (.not (.var 7)) [.ret (.call 77 [(.bin .add (.lst [(.call 71 [(.var 1)])]) (.frz 6))])] [],.asg 6 (.call 70 [(.frz 6)]),.ite (.or [(.cmp .eq (.bi1 .len (.var 6)) (.int 0)),(.cmp .eq (.subN (.var 1) 0) (.int 0))]) [.ret (.call 71 [(.var 1)])] [],.ret (.call 73 [(.var 1),(.ite (.cmp .eq (.bi1 .len (.var 6)) (.int 1)) (.subN (.var 6) 0) (.tup [(.str 3),(.bi1 .tuple (.var 6))]))])]⟩
noncomputable def f_power_of:Fn:=⟨"power_of",2,false,["base", "exponent"],
 [.ite (.cmp .eq (.var 1) (.glob 6)) [.ite (.cmp .eq (.var 0) (.glob 6)) [.bad] [],.ret (.glob 7)] [],.ite (.cmp .eq (.var 1) (.glob 7)) [.ret (.var 0)] [],.ite (.cmp .eq (.var 0) (.glob 8)) [.bad] [],.ite (.cmp .eq (.subN (.var 0) 0) (.str 0)) [.bad] [],.ite (.and [(.call 58 [(.var 1)]),(.cmp .eq (.subN (.var 0) 0) (.str 3))]) [.ret (.call 77 [(.comp 1 (.val (.subN (.var 0) 1)) [] (.call 78 [(.var 2),(.var 1)]))])] [],.ite (.and [(.call 58 [(.var 1)]),(.cmp .eq (.subN (.var 0) 0) (.str 4))]) [.ret (.call 78 [(.subN (.var 0) 1),(.call 77 [(.lst [(.subN (.var 0) 2),(.var 1)])])])] [],.ite (.and [(.call 58 [(.var 1)]),(.cmp .eq (.subN (.var 0) 0) (.str 5)),(.cmp .eq (.subN (.var 0) 1) (.str 6))]) [.bad] [],.ite (.and [(.cmp .eq (.subN (.var 1) 0) (.str 0)),(.or [(.inS true (.subN (.var 0) 0) [3,4]),(.and [(.cmp .eq (.subN (.var 0) 0) (.str 5)),(.cmp .eq (.subN (.var 0) 1) (.str 6))])])]) [.bad] [],.ret (.tup [(.str 4),(.var 0),(.var 1)])]⟩
noncomputable def f_simplify:Fn:=⟨"simplify",1,false,["t", "kind", "parts"],
 [.asg 1 (.subN (.var 0) 0),.ite (.cmp .eq (.var 1) (.str 0)) [.ret (.call 71 [(.call 1 [(.subN (.var 0) 1),(.subN (.var 0) 2)])])] [],.ite (.cmp .eq (.var 1) (.str 1)) [.ret (.var 0)] [],.ite (.cmp .eq (.var 1) (.str 4)) [.ret (.call 78 [(.call 79 [(.subN (.var 0) 1)]),(.call 79 [(.subN (.var 0) 2)])])] [],.ite (.cmp .eq (.var 1) (.str 5)) [.bad] [],.ite (.cmp .eq (.var 1) (.str 15)) [.ret (.tup [(.str 15),(.call 79 [(.subN (.var 0) 1)]),(.call 79 [(.subN (.var 0) 2)])])] [],.asg 2 (.comp 1 (.val (.subN (.var 0) 1)) [] (.call 79 [(.var 3)])),.ite (.cmp .eq (.var 1) (.str 2)) [.ret (.call 75 [(.var 2)])] [],.ret (.ite (.cmp .eq (.var 1) (.str 3)) (.call 77 [(.var 2)]) (.tup [(.str 16),(.bi1 .tuple (.var 2))]))]⟩
noncomputable def f_limit_end:Fn:=⟨"limit_end",1,false,["term"],
 [.ite (.cmp .eq (.var 0) (.glob 13)) [.ret (.str 20)] [],.ite (.or [(.cmp .eq (.var 0) (.glob 14)),(.cmp .eq (.var 0) (.tup [(.str 3),(.tup [(.glob 5),(.glob 13)])]))]) [.ret (.str 23)] [],.ite (.not (.call 56 [(.var 0)])) [.bad] [],.ret (.call 57 [(.var 0)])]⟩
noncomputable def f_limit_term:Fn:=⟨"limit_term",4,false,["term", "name", "end", "side", "found"],
 [.asg 4 (.call 49 [(.var 0),(.var 1),(.call 80 [(.var 2)]),(.var 3)]),.ite (.isN (.var 4)) [.ret (.call 51 [(.str 22)])] [],.ite (.cmp .eq (.var 4) (.str 20)) [.ret (.glob 13)] [],.ret (.ite (.cmp .eq (.var 4) (.str 23)) (.glob 14) (.call 50 [(.subN (.var 4) 0),(.subN (.var 4) 1)]))]⟩
noncomputable def f_taylor_term:Fn:=⟨"taylor_term",4,false,["term", "name", "at", "order", "apart", "found", "step", "number"],
 [.ite (.or [(.not (.call 56 [(.var 2)])),(.not (.call 58 [(.var 3)])),(.cmp .lt (.subN (.var 3) 1) (.int 0))]) [.bad] [],.asg 4 (.call 79 [(.call 52 [(.lst [(.call 51 [(.var 1)]),(.call 55 [(.var 2)])])])]),.newL 5,.for [6,7] (.enm (.call 44 [(.var 0),(.var 1),(.call 57 [(.var 2)]),(.bin .add (.subN (.var 3) 1) (.int 1))])) [.app 5 (.call 53 [(.lst [(.call 50 [(.subN (.var 7) 0),(.subN (.var 7) 1)]),(.call 54 [(.var 4),(.call 50 [(.var 6),(.int 1)])])])])],.ret (.call 79 [(.call 52 [(.frz 5)])])]⟩
noncomputable def f_law_pick:Fn:=⟨"_law_pick",2,true,["pen", "many"],
 [.setI 0 (.int 1) (.bin .add (.subO 0 (.int 1)) (.int 1)),.ite (.cmp .le (.subO 0 (.int 1)) (.bi1 .len (.subO 0 (.int 0)))) [.ret (.bin .mod (.sub (.subO 0 (.int 0)) (.bin .sub (.subO 0 (.int 1)) (.int 1))) (.var 1))] [],.ret (.bin .mod (.bin .add (.bin .add (.bin .mul (.int 5) (.subO 0 (.int 1))) (.bin .fdiv (.bin .mul (.subO 0 (.int 1)) (.subO 0 (.int 1))) (.int 7))) (.subO 0 (.int 2))) (.var 1))]⟩
noncomputable def f_law_ratio:Fn:=⟨"_law_ratio",2,false,["top", "bottom", "one", "other"],
 [.unpE [2,3] [.e (.bi1 .abs (.var 0)),.e (.bi1 .abs (.var 1))],.whl (.cmp .gt (.var 3) (.int 0)) [.unpE [2,3] [.e (.var 3),.e (.bin .mod (.var 2) (.var 3))]],.asg 2 (.ite (.cmp .gt (.var 1) (.int 0)) (.var 2) (.bin .sub (.int 0) (.var 2))),.ret (.tup [(.bin .fdiv (.var 0) (.var 2)),(.bin .fdiv (.var 1) (.var 2))])]⟩
noncomputable def f_law_plus:Fn:=⟨"_law_plus",2,false,["one", "other"],
 [.ret (.call 84 [(.bin .add (.bin .mul (.subN (.var 0) 0) (.subN (.var 1) 1)) (.bin .mul (.subN (.var 1) 0) (.subN (.var 0) 1))),(.bin .mul (.subN (.var 0) 1) (.subN (.var 1) 1))])]⟩
noncomputable def f_law_raised:Fn:=⟨"_law_raised",2,false,["base", "many"],
 [.ret (.ite (.cmp .ge (.var 1) (.int 0)) (.call 84 [(.bin .pow (.subN (.var 0) 0) (.var 1)),(.bin .pow (.subN (.var 0) 1) (.var 1))]) (.call 84 [(.bin .pow (.subN (.var 0) 1) (.bin .sub (.int 0) (.var 1))),(.bin .pow (.subN (.var 0) 0) (.bin .sub (.int 0) (.var 1)))]))]⟩
noncomputable def f_law_term:Fn:=⟨"_law_term",1,false,["row"],
 [.ret (.call 79 [(.tup [(.str 2),(.bi1 .tuple (.comp 2 (.enm (.var 0)) [] (.tup [(.str 3),(.tup [(.tup [(.str 0),(.var 2),(.int 1)]),(.tup [(.str 4),(.glob 15),(.tup [(.str 0),(.var 1),(.int 1)])])])])))])])]⟩
noncomputable def f_law_value:Fn:=⟨"_law_value",2,false,["term", "x", "found", "part", "one"],
 [.ite (.cmp .eq (.subN (.var 0) 0) (.str 0)) [.ret (.tup [(.subN (.var 0) 1),(.subN (.var 0) 2)])] [],.ite (.cmp .eq (.subN (.var 0) 0) (.str 1)) [.ret (.tup [(.var 1),(.int 1)])] [],.ite (.cmp .eq (.subN (.var 0) 0) (.str 4)) [.ret (.call 86 [(.call 88 [(.subN (.var 0) 1),(.var 1)]),(.subN (.subN (.var 0) 2) 1)])] [],.asg 2 (.ite (.cmp .eq (.subN (.var 0) 0) (.str 2)) (.tup [(.int 0),(.int 1)]) (.tup [(.int 1),(.int 1)])),.for [3] (.val (.subN (.var 0) 1)) [.asg 4 (.call 88 [(.var 3),(.var 1)]),.asg 2 (.ite (.cmp .eq (.subN (.var 0) 0) (.str 2)) (.call 85 [(.var 2),(.var 4)]) (.call 84 [(.bin .mul (.subN (.var 2) 0) (.subN (.var 4) 0)),(.bin .mul (.subN (.var 2) 1) (.subN (.var 4) 1))]))],.ret (.var 2)]⟩
noncomputable def f_law_choose:Fn:=⟨"_law_choose",2,false,["many", "few", "top", "bottom", "turn"],
 [.unpE [2,3] [.e (.int 1),.e (.int 1)],.for [4] (.rng1 (.var 1)) [.unpE [2,3] [.e (.bin .mul (.var 2) (.bin .sub (.var 0) (.var 4))),.e (.bin .mul (.var 3) (.bin .add (.var 4) (.int 1)))]],.ret (.bin .fdiv (.var 2) (.var 3))]⟩
noncomputable def f_law_beginning:Fn:=⟨"_law_beginning",2,true,["pen", "order", "form", "place", "row", "found", "step", "number", "at", "raised_here", "gap", "below", "sign"],
 [.unpE [2,3] [.e (.callO 83 0 [(.int 4)]),.e (.call 84 [(.bin .sub (.callO 83 0 [(.int 5)]) (.int 2)),(.bin .add (.int 1) (.callO 83 0 [(.int 2)]))])],.ite (.cmp .eq (.var 2) (.int 0)) [.asg 4 (.comp 1 (.rng1 (.callO 83 0 [(.int 5)])) [] (.bin .sub (.callO 83 0 [(.int 5)]) (.int 2))),.newL 5,.for [6] (.rng1 (.bin .add (.var 1) (.int 1))) [.asg 7 (.tup [(.int 0),(.int 1)]),.for [8] (.rng2 (.var 6) (.bi1 .len (.var 4))) [.asg 9 (.call 86 [(.var 3),(.bin .sub (.var 8) (.var 6))]),.asg 7 (.call 85 [(.var 7),(.tup [(.bin .mul (.bin .mul (.sub (.var 4) (.var 8)) (.call 89 [(.var 8),(.var 6)])) (.subN (.var 9) 0)),(.subN (.var 9) 1)])])],.app 5 (.var 7)],.ret (.tup [(.call 87 [(.var 4)]),(.var 3),(.frz 5)])] [],.ite (.cmp .eq (.var 2) (.int 1)) [.asg 10 (.call 85 [(.var 3),(.tup [(.int 3),(.int 1)])]),.asg 5 (.comp 1 (.rng1 (.bin .add (.var 1) (.int 1))) [] (.call 84 [(.bin .mul (.bin .pow (.neg (.int 1)) (.var 13)) (.bin .pow (.subN (.var 10) 1) (.bin .add (.var 13) (.int 1)))),(.bin .pow (.subN (.var 10) 0) (.bin .add (.var 13) (.int 1)))])),.ret (.tup [(.call 79 [(.tup [(.str 4),(.tup [(.str 2),(.tup [(.glob 15),(.tup [(.str 0),(.int 3),(.int 1)])])]),(.tup [(.str 0),(.neg (.int 1)),(.int 1)])])]),(.var 3),(.var 5)])] [],.unpE [5,11] [.newL,.e (.int 1)],.for [6] (.rng1 (.bin .add (.var 1) (.int 1))) [.asg 11 (.bin .mul (.var 11) (.bi2 .max (.int 1) (.var 6))),.asg 12 (.ite (.cmp .eq (.var 2) (.int 2)) (.int 1) (.sub (.lst [(.int 0),(.int 1),(.int 0),(.neg (.int 1))]) (.bin .mod (.var 6) (.int 4)))),.app 5 (.call 84 [(.var 12),(.var 11)])],.ret (.tup [(.tup [(.str 5),(.sub (.lst [(.str 6),(.str 9)]) (.bin .sub (.var 2) (.int 2))),(.tup [(.glob 15)])]),(.tup [(.int 0),(.int 1)]),(.frz 5)])]⟩
noncomputable def f_law_beginning_right:Fn:=⟨"_law_beginning_right",1,true,["pen", "order", "term", "place", "row", "at", "made", "x", "due", "step", "number", "power", "wrong"],
 [.asg 1 (.callO 83 0 [(.int 4)]),.unp [2,3,4] (.callO 90 0 [(.var 1)]),.asg 5 (.tup [(.str 0),(.subN (.var 3) 0),(.subN (.var 3) 1)]),.asg 6 (.call 82 [(.var 2),(.str 17),(.var 5),(.tup [(.str 0),(.var 1),(.int 1)])]),.for [7] (.val (.tup [(.int 0),(.int 2),(.int 5)])) [.asg 8 (.tup [(.int 0),(.int 1)]),.for [9,10] (.enm (.var 4)) [.asg 11 (.call 86 [(.call 85 [(.tup [(.var 7),(.int 1)]),(.tup [(.bin .sub (.int 0) (.subN (.var 3) 0)),(.subN (.var 3) 1)])]),(.var 9)]),.asg 8 (.call 85 [(.var 8),(.tup [(.bin .mul (.subN (.var 10) 0) (.subN (.var 11) 0)),(.bin .mul (.subN (.var 10) 1) (.subN (.var 11) 1))])])],.ite (.cmp .ne (.call 88 [(.var 6),(.var 7)]) (.var 8)) [.ret (.bool false)] []],.asg 12 (.sub (.lst [(.tup [(.var 5),(.tup [(.str 0),(.neg (.int 1)),(.int 1)])]),(.tup [(.var 5),(.tup [(.str 0),(.int 1),(.int 2)])]),(.tup [(.tup [(.str 1),(.str 20)]),(.tup [(.str 0),(.int 1),(.int 1)])]),(.tup [(.var 5),(.tup [(.str 1),(.str 19)])])]) (.callO 83 0 [(.int 4)])),.bad]⟩
noncomputable def f_law_limits_right:Fn:=⟨"_law_limits_right",1,true,["pen", "row", "number", "many", "side", "term", "below", "far", "low", "value", "falls", "end", "due"],
 [.asg 1 (.bin .add (.comp 1 (.rng1 (.bin .add (.int 1) (.callO 83 0 [(.int 3)]))) [] (.bin .sub (.callO 83 0 [(.int 5)]) (.int 2))) (.lst [(.sub (.lst [(.int 1),(.neg (.int 1)),(.int 2)]) (.callO 83 0 [(.int 3)]))])),.unpE [2,3,4] [.e (.bin .sub (.callO 83 0 [(.int 5)]) (.int 2)),.e (.bin .add (.int 1) (.callO 83 0 [(.int 3)])),.e (.sub (.lst [(.int 0),(.int 1),(.neg (.int 1))]) (.callO 83 0 [(.int 3)]))],.unpE [5,6] [.e (.call 87 [(.var 1)]),.e (.call 79 [(.tup [(.str 4),(.tup [(.str 2),(.tup [(.glob 15),(.tup [(.str 0),(.bin .sub (.int 0) (.var 2)),(.int 1)])])]),(.tup [(.str 0),(.bin .sub (.int 0) (.var 3)),(.int 1)])])])],.unpE [7,8] [.e (.tup [(.str 1),(.str 20)]),.e (.tup [(.str 1),(.str 21)])],.asg 9 (.bi1 .sum (.comp 2 (.enm (.var 1)) [] (.bin .mul (.var 14) (.bin .pow (.var 2) (.var 13))))),.ite (.cmp .ne (.call 81 [(.var 5),(.str 17),(.tup [(.str 0),(.var 2),(.int 1)]),(.var 4)]) (.tup [(.str 0),(.var 9),(.int 1)])) [.ret (.bool false)] [],.asg 10 (.cmp .lt (.bin .mul (.sub (.var 1) (.neg (.int 1))) (.bin .pow (.neg (.int 1)) (.bin .sub (.bi1 .len (.var 1)) (.int 1)))) (.int 0)),.for [11,12] (.val (.tup [(.tup [(.var 7),(.ite (.cmp .gt (.sub (.var 1) (.neg (.int 1))) (.int 0)) (.var 7) (.var 8))]),(.tup [(.var 8),(.ite (.var 10) (.var 8) (.var 7))]),(.tup [(.tup [(.str 3),(.tup [(.tup [(.str 0),(.neg (.int 1)),(.int 1)]),(.var 7)])]),(.ite (.var 10) (.var 8) (.var 7))])])) [.ite (.or [(.cmp .ne (.call 81 [(.var 5),(.str 17),(.var 11),(.int 0)]) (.var 12)),(.cmp .ne (.call 81 [(.var 6),(.str 17),(.var 11),(.int 0)]) (.tup [(.str 0),(.int 0),(.int 1)]))]) [.ret (.bool false)] []],.asg 12 (.ite (.or [(.cmp .eq (.bin .mod (.var 3) (.int 2)) (.int 0)),(.cmp .eq (.var 4) (.int 1))]) (.var 7) (.ite (.cmp .eq (.var 4) (.neg (.int 1))) (.var 8) (.tup [(.str 1),(.str 22)]))),.ite (.cmp .ne (.call 81 [(.var 6),(.str 17),(.tup [(.str 0),(.var 2),(.int 1)]),(.var 4)]) (.var 12)) [.ret (.bool false)] [],.bad]⟩
noncomputable def f_law:Fn:=⟨"law",1,false,["script", "pen"],
 [.newLi 1 [(.bi1 .list (.slcHi (.var 0) (.int 40))),(.int 0),(.bin .mod (.bi1 .sum (.slcHi (.var 0) (.int 40))) (.int 997))],.ret (.and [(.callO 91 1 []),(.callO 92 1 []),(.callO 91 1 [])])]⟩
noncomputable def nS:List Fn:=[f_gcd,f_rat,f_radd,f_rsub,f_rmul,f_rdiv,f_rneg,f_rinv,f_rpower,f_rcompare,f_ginsert,f_gadd,f_poly_sum,f_kind_product,f_gmul,f_kind_compare,f_fastest,f_gratio_power,f_growth_of,f_growth_of_other,f_far_limit,f_cut,f_sadd,f_mixed,f_smul,f_sinverse,f_need_begin,f_sexp,f_ssin_cos,f_ssin,f_swhole_power,f_lplain,f_lmoved,f_ladd,f_lmul,f_ltrim,f_linverse,f_lpower,f_lcut,f_from_zero,f_of_call,f_of_power,f_of_term,f_laurent_of,f_series_of,f_from_begin,f_limit_near,f_mirrored,f_limit_far,f_limit,f_t_num,f_t_sym,f_t_sum,f_t_prod,f_t_pow,f_t_minus,f_is_num,f_num_of,f_is_whole_num,f_sign_between,f_compare_values,f_bare_factors,f_front_value,f_base_and_exponent,f_compare_rows,f_compare_exponents,f_compare_bases,f_compare_factors,f_compare_terms,f_merged_terms,f_sort_terms,f_number_term,f_number_and_rest,f_with_number,f_flat_parts,f_gathered_sum,f_as_power,f_gathered_product,f_power_of,f_simplify,f_limit_end,f_limit_term,f_taylor_term,f_law_pick,f_law_ratio,f_law_plus,f_law_raised,f_law_term,f_law_value,f_law_choose,f_law_beginning,f_law_beginning_right,f_law_limits_right,f_law]
end Mine.Internal
set_option genSizeOf false
namespace Mine.Internal
set_option genCtorIdx true in
inductive Pl where
 |loc (L:Addr) (x:Str)
 |cel (c:Addr)
noncomputable def Pl.addr:Pl→Addr
 |.loc L _=>L
 |.cel c=>c
def rd (h:Heap):Pl→Value→Prop
 |.loc L x,v=>∃m,h.Ns L m∧m x=some v
 |.cel c,v=>∃o,h.get? c=some o∧o.data=.cell (some v)
def there (h:Heap):Pl→Prop
 |.loc L _=>∃m,h.Ns L m
 |.cel c=>∃o v,h.get? c=some o∧o.data=.cell v
abbrev sV:=List (Option Addr)
structure Tb where
 tb:Addr→Prop
 inv:Gh→Prop
 mono:∀g g':Gh,(∀a o,g a o→g' a o)→inv g→inv g'
structure Kx where
 P:Params
 T:Tb
 bs:Heap
 N:Nat
 io:Option Addr
structure Bs (K:Kx) where
 out:Addr→Prop
 pls:List Pl
 tbN:∀a,K.T.tb a→a<K.N∧out a∧K.io≠some a
 bas:∀a o,K.bs.get? a=some o→a<K.N∧¬out a∧K.io≠some a
 pl:∀p∈pls,K.N≤p.addr∧¬out p.addr
 pnd:pls.Nodup
 ne:pls≠[]
 ioN:∀a,K.io=some a→a<K.N∧a≠sysModules
 sys:out sysModules∧sysModules<K.N
def cQ (pls:List Pl)(a:Addr):Prop:=∃p∈pls,p.addr=a
abbrev iG (h h':Heap):Prop:=∀a o,h.get? a=some o→h'.get? a=some o
def cG (h:Heap)(a:Addr):Prop:=∃hm,iG h hm∧hm.objs.size≤a
theorem aV {h:Heap}:cG h h.objs.size:=⟨h,fun _ _ e=>e,Nat.le_refl _⟩
theorem cG.le {h:Heap}{a:Addr}(l:h.objs.size≤a):cG h a:=⟨h,fun _ _ e=>e,l⟩
theorem bB {h:Heap}{o:Obj}:iG h (h.push o):=fun _ _ e=>Heap.get?_push_of_some _ e
theorem cG.none {h:Heap}{a:Addr}(f:cG h a){o:Obj}(e:h.get? a=some o):False:=aD f fun _ k l=>absurd (Heap.lt_size (k a o e)) (Nat.not_lt.mpr l)
theorem cG.after {h h':Heap}{a:Addr}(k:iG h h')(f:cG h' a):cG h a:=aD f fun hm k' l=>⟨hm,fun a o e=>k' a o (k a o e),l⟩
section
variable {K:Kx}
def Xs (B:Bs K)(own:sV)(a:Addr):Prop:=B.out a∨cQ B.pls a∨some a∈own
def gv (B:Bs K)(own:sV)(h:Heap):Gh:=fun a o=>h.get? a=some o∧¬Xs B own a
def gt (B:Bs K)(own:sV)(h:Heap):Gh:=fun a o=>h.get? a=some o∧(K.T.tb a∨¬Xs B own a)
def dB (P:Params)(g:Gh)(h:Heap)(a:Addr)(sl:aE):Prop:=match sl with
 |.l xs=>∃vs n,h.get? a=some (bV vs n)∧bJ P g vs xs
 |.d kvs=>∃es n,h.get? a=some (cD es n)∧hM P g es kvs∧(kvs.map (·.1)).Nodup
 |_=>False
def jC (P:Params)(g:Gh)(h:Heap)(p:Pl)(oa:Option Addr)(sl:aE):Prop:=match oa with
 |none=>match sl with
  |.un=>there h p
  |.v x=>∃pv,rd h p pv∧Rp P g pv x
  |_=>False
 |some a=>rd h p (.ref a)∧dB P g h a sl
structure St (B:Bs K)(own:sV)(ρ:Fm)(h:Heap):Prop where
 bs:iG K.bs h
 live:∀a,B.out a→a<K.N∨∃o,h.get? a=some o
 ow:∀(i:Nat) (a:Addr),own[i]? =some (some a)→(K.N≤a∧¬B.out a)∨(i=0∧K.io=some a)
 lenP:B.pls.length=ρ.length
 lenO:own.length=ρ.length
 slot:∀(i:Nat) p sl oa,B.pls[i]? =some p→ρ[i]? =some sl→own[i]? =some oa→jC K.P (gv B own h) h p oa sl
 sep:∀(i:Nat) (a:Addr),own[i]? =some (some a)→¬cQ B.pls a
 dis:∀(i j:Nat) (a:Addr),own[i]? =some (some a)→own[j]? =some (some a)→i=j
 ti:K.T.inv (gt B own h)
 own0:∀a,K.io=some a→own[0]? =some (some a)
structure Gw (K:Kx)(pls:List Pl)(own:sV)(h:Heap)(own':sV)(h':Heap):Prop where
 k:∀a o,h.get? a=some o→¬K.T.tb a→¬cQ pls a→some a∉own→h'.get? a=some o
 n:∀a,some a∈own'→some a∈own∨K.T.tb a∨cQ pls a∨∀o,h.get? a≠some o
structure Gr (K:Kx)(pls:List Pl)(own:sV)(h:Heap)(own':sV)(h':Heap):Prop extends Gw K pls own h own' h' where
 r:∀p∈pls,∀v,rd h p v→rd h' p v
variable {B:Bs K}{pls:List Pl}{own own1 own2:sV}{ρ:Fm}{h h1 h2:Heap}
theorem Gw.refl:Gw K pls own h own h:=⟨fun _ _ g _ _ _=>g,fun _ m=>.inl m⟩
theorem Gw.trans (a:Gw K pls own h own1 h1)(b:Gw K pls own1 h1 own2 h2):Gw K pls own h own2 h2 where
 k:=fun x o g t p m=>b.k x o (a.k x o g t p m) t p fun q=>(a.n x q).elim m fun q=>q.elim t fun q=>q.elim p fun q=>q o g
 n:=fun x m=>(b.n x m).elim (a.n x) fun q=>q.elim (fun t=>.inr (.inl t)) fun q=>q.elim (fun p=>.inr (.inr (.inl p))) fun d=>
  Classical.byCases (fun t:K.T.tb x=>.inr (.inl t)) fun t=>Classical.byCases (fun p:cQ pls x=>.inr (.inr (.inl p))) fun p=>Classical.byCases (fun m:some x∈own=>.inl m) fun m=>
   .inr (.inr (.inr fun o g=>d o (a.k x o g t p m)))
theorem Gw.beside (a:Gw K pls own h own1 h1){D:Addr→Prop}(hk:∀b o,h1.get? b=some o→¬D b→h2.get? b=some o)(hD:∀b o,D b→h.get? b≠some o):Gw K pls own h own1 h2:=
 ⟨fun x o g t p m=>hk x o (a.k x o g t p m) fun d=>hD x o d g,a.n⟩
theorem Gw.ext (hk:iG h h1):Gw K pls own h own h1:=⟨fun _ _ g _ _ _=>hk _ _ g,fun _ m=>.inl m⟩
theorem Gw.g (w:Gw K B.pls own h own1 h1)(a:Addr)(o:Obj)(g:gv B own h a o):gv B own1 h1 a o:=
 ⟨w.k a o g.1 (fun t=>g.2 (.inl (B.tbN a t).2.1)) (fun p=>g.2 (.inr (.inl p))) fun m=>g.2 (.inr (.inr m)),fun x=>x.elim (fun x=>g.2 (.inl x)) fun x=>x.elim (fun x=>g.2 (.inr (.inl x))) fun x=>
  (w.n a x).elim (fun m=>g.2 (.inr (.inr m))) fun q=>q.elim (fun t=>g.2 (.inl (B.tbN a t).2.1)) fun q=>q.elim (fun p=>g.2 (.inr (.inl p))) fun d=>d o g.1⟩
theorem Gr.refl:Gr K pls own h own h:=⟨.refl,fun _ _ _ r=>r⟩
theorem Gr.trans (a:Gr K pls own h own1 h1)(b:Gr K pls own1 h1 own2 h2):Gr K pls own h own2 h2:=⟨a.toGw.trans b.toGw,fun p hp v r=>b.r p hp v (a.r p hp v r)⟩
theorem AG {h:Heap}{L:Addr}{m m':Str→Option Value}(a:h.Ns L m)(b:h.Ns L m'):m=m':=by
 refine oO a fun o es ep ho hd _ hm=>?_
 refine oO b fun o' es' ep' ho' hd' _ hm'=>?_
 rw [ho] at ho';cases ho'
 rw [hd] at hd';cases hd'
 funext x
 refine (hm x)▸?_;exact (hm' x)▸rfl
theorem rd.at {p:Pl}{v:Value}(r:rd h p v)(e:∀o,h.get? p.addr=some o→h1.get? p.addr=some o):rd h1 p v:=by
 cases p with
 |loc L x=>exact r.imp fun _ q=>⟨q.1.at' e,q.2⟩
 |cel c=>exact r.imp fun o q=>⟨e o q.1,q.2⟩
theorem there.at {p:Pl}(r:there h p)(e:∀o,h.get? p.addr=some o→h1.get? p.addr=some o):there h1 p:=by
 cases p with
 |loc L x=>exact r.imp fun _ q=>q.at' e
 |cel c=>exact r.imp fun o q=>q.imp fun _ q=>⟨e o q.1,q.2⟩
theorem rd.there {p:Pl}{v:Value}(r:rd h p v):there h p:=by
 cases p with
 |loc L x=>exact r.imp fun _ q=>q.1
 |cel c=>exact r.imp fun o q=>⟨_,q⟩
theorem rd.uniq {p:Pl}{v v':Value}(r:rd h p v)(r':rd h p v'):v=v':=by
 cases p with
 |loc L x=>
  refine aD r fun m a b=>?_;refine aD r' fun m' a' b'=>?_
  exact Option.some.inj (b.symm.trans ((AG a a'▸rfl:m x=m' x).trans b'))
 |cel c=>
  refine aD r fun o a b=>?_;refine aD r' fun o' a' b'=>?_
  have e:=Option.some.inj (a.symm.trans a')
  exact Option.some.inj (Data.cell.inj (b.symm.trans (e▸b')))
theorem there.live {p:Pl}(r:there h p):∃o,h.get? p.addr=some o∧((∃es n,o.data=.dict es n)∨∃v,o.data=.cell v):=by
 cases p with
 |loc L x=>refine aR r fun m aqQ=>?_;obtain ⟨o,es,ep,g,d,_⟩:=aqQ;exact ⟨o,g,.inl (bM es ep d)⟩
 |cel c=>refine cF r fun o v g d=>?_;exact ⟨o,g,.inr ⟨v,d⟩⟩
theorem jC.there {P g p oa sl}(k:jC P g h p oa sl):there h p:=by
 cases oa with
 |some a=>exact k.1.there
 |none=>cases sl with
  |un=>exact k
  |v x=>exact k.elim fun _ q=>q.1.there
  |_=>exact k.elim
theorem dB.live {P g a sl}(k:dB P g h a sl):∃o,h.get? a=some o:=by
 cases sl with
 |l xs=>refine cF k fun vs n g _=>?_;exact ⟨_,g⟩
 |d xs=>refine cF k fun vs n g _=>?_;exact ⟨_,g⟩
 |_=>exact k.elim
theorem dB.move {P a sl}{g g':Gh}(k:dB P g h a sl)(hg:∀a o,g a o→g' a o)(e:∀o,h.get? a=some o→h1.get? a=some o):dB P g' h1 a sl:=by
 cases sl with
 |l xs=>refine cF k fun vs n g r=>?_;exact (bM vs n ⟨e _ g,r.mono hg⟩)
 |d xs=>refine bN k fun vs n g r d=>?_;exact (bM vs n ⟨e _ g,r.mono hg,d⟩)
 |_=>exact k.elim
theorem jC.move {P p oa sl}{g g':Gh}(k:jC P g h p oa sl)(hg:∀a o,g a o→g' a o)(er:∀v,rd h p v→rd h1 p v)(et:Internal.there h p→Internal.there h1 p)
  (eo:∀a,oa=some a→∀o,h.get? a=some o→h1.get? a=some o):jC P g' h1 p oa sl:=by
 cases oa with
 |some a=>exact ⟨er _ k.1,k.2.move hg (eo a rfl)⟩
 |none=>cases sl with
  |un=>exact et k
  |v x=>exact k.elim fun pv q=>⟨pv,er _ q.1,q.2.mono hg⟩
  |_=>exact k.elim
theorem ix {α:Type}{l:List α}{x:α}(h:x∈l):∃i:Nat,l[i]? =some x:=List.mem_iff_getElem?.mp h
theorem gO {α β:Type}{l:List α}{m:List β}{i:Nat}{x:α}(h:l[i]? =some x)(e:l.length=m.length):∃y,m[i]? =some y:=⟨_,List.getElem?_eq_getElem (e▸(List.getElem?_eq_some_iff.mp h).1)⟩
theorem fH {α:Type}{l:List α}{i j:Nat}{x y:α}(h:(l.set i x)[j]? =some y):(j=i∧y=x)∨(j≠i∧l[j]? =some y):=by
 by_cases e:i=j
 ·subst e
  rw [List.getElem?_set_self'] at h
  cases q:l[i]? with
  |none=>rw [q] at h;cases h
  |some z=>rw [q] at h;cases h;exact .inl ⟨rfl,rfl⟩
 ·rw [List.getElem?_set_ne e] at h
  exact .inr ⟨fun q=>e q.symm,h⟩
section
variable (S:St B own ρ h)
include S
theorem St.get {i:Nat}{sl:aE}(hi:ρ[i]? =some sl):∃p oa,B.pls[i]? =some p∧own[i]? =some oa∧jC K.P (gv B own h) h p oa sl:=
 aR (gO hi S.lenP.symm) fun p hp=>
 aR (gO hi S.lenO.symm) fun oa ho=>
 (bM p oa ⟨hp,ho,S.slot i p sl oa hp hi ho⟩)
theorem St.plLive {p:Pl}(hp:p∈B.pls):there h p:=by
 refine aR (ix hp) fun i hi=>?_
 refine aR (gO hi S.lenP) fun sl hs=>?_
 refine aR (gO hs S.lenO.symm) fun oa ho=>?_
 exact (S.slot i p sl oa hi hs ho).there
theorem St.ownLive {a:Addr}(ha:some a∈own):∃o,h.get? a=some o:=by
 refine aR (ix ha) fun i hi=>?_
 refine aR (gO hi S.lenO) fun sl hs=>?_
 refine aR (gO hs S.lenP.symm) fun p hp=>?_
 exact (S.slot i p sl _ hp hs hi).2.live
theorem St.size:K.N≤h.objs.size:=by
 refine bA (List.exists_cons_of_ne_nil B.ne) fun p r e=>?_
 have hp:p∈B.pls:=e▸.head _
 refine aD ((S.plLive hp).live) fun o g _=>?_
 exact Nat.le_trans (B.pl p hp).1 (Nat.le_of_lt (Heap.lt_size g))
theorem St.xlive {a:Addr}(x:Xs B own a):a<K.N∨∃o,h.get? a=some o:=by
 rcases x with x|⟨p,hp,rfl⟩|x
 ·exact S.live a x
 ·refine aD ((S.plLive hp).live) fun o g _=>?_;exact .inr ⟨o,g⟩
 ·exact .inr (S.ownLive x)
theorem St.ownX {a:Addr}(ha:some a∈own):¬K.T.tb a∧¬cQ B.pls a∧K.bs.get? a=none∧(K.N≤a∧¬B.out a∨K.io=some a):=by
 refine aR (ix ha) fun i hi=>?_
 have q:K.N≤a∧¬B.out a∨K.io=some a:=(S.ow i a hi).imp id And.right
 refine ⟨fun t=>?_,S.sep i a hi,?_,q⟩
 ·refine eT (B.tbN a t) fun t1 _ t3=>?_
  exact q.elim (fun q=>absurd t1 (Nat.not_lt.mpr q.1)) t3
 ·cases e:K.bs.get? a with
  |none=>rfl
  |some o=>
   refine eT (B.bas a o e) fun t1 _ t3=>?_
   exact (q.elim (fun q=>absurd t1 (Nat.not_lt.mpr q.1)) t3).elim
omit S in
theorem UC {p:Pl}(hp:p∈B.pls):¬K.T.tb p.addr∧K.bs.get? p.addr=none∧K.io≠some p.addr:=by
 refine aF (B.pl p hp) fun q1 q2=>?_
 refine ⟨fun t=>absurd (B.tbN _ t).1 (Nat.not_lt.mpr q1),?_,fun e=>absurd (B.ioN _ e).1 (Nat.not_lt.mpr q1)⟩
 cases e:K.bs.get? p.addr with
 |none=>rfl
 |some o=>exact absurd (B.bas _ o e).1 (Nat.not_lt.mpr q1)
theorem St.base {a:Addr}{o:Obj}(e:K.bs.get? a=some o):gv B own h a o:=by
 refine ⟨S.bs a o e,?_⟩
 rintro (q|⟨p,hp,rfl⟩|q)
 ·exact (B.bas a o e).2.1 q
 ·have:=(UC hp).2.1;rw [e] at this;cases this
 ·have:=(S.ownX q).2.2.1;rw [e] at this;cases this
theorem St.fresh {a:Addr}(f:cG h a):¬Xs B own a∧K.N≤a∧¬K.T.tb a∧K.bs.get? a=none:=by
 have hN:K.N≤a:=by
  refine aD f fun hm k l=>?_
  refine bA (List.exists_cons_of_ne_nil B.ne) fun p r e=>?_
  have hp:p∈B.pls:=e▸.head _
  refine aD ((S.plLive hp).live) fun o g _=>?_
  exact Nat.le_trans (B.pl p hp).1 (Nat.le_trans (Nat.le_of_lt (Heap.lt_size (k _ _ g))) l)
 refine ⟨fun x=>(S.xlive x).elim (fun q=>absurd q (Nat.not_lt.mpr hN)) fun ⟨o,g⟩=>f.none g,hN,fun t=>absurd (B.tbN _ t).1 (Nat.not_lt.mpr hN),?_⟩
 cases e:K.bs.get? a with
 |none=>rfl
 |some o=>exact absurd (B.bas _ o e).1 (Nat.not_lt.mpr hN)
theorem St.chg {D:Addr→Prop}(hk:∀b o,h.get? b=some o→¬D b→h1.get? b=some o)(hD:∀b,D b→B.out b∧K.io≠some b∧(b<K.N∨∃o,h1.get? b=some o))(ti:K.T.inv (gt B own h1)):St B own ρ h1 where
 bs:=fun a o e=>hk a o (S.bs a o e) fun d=>(B.bas a o e).2.1 (hD a d).1
 live:=fun a x=>Classical.byCases (fun d:D a=>(hD a d).2.2) fun d=>(S.live a x).imp id fun ⟨o,g⟩=>⟨o,hk a o g d⟩
 ow:=S.ow
 lenP:=S.lenP
 lenO:=S.lenO
 slot:=fun i p sl oa h1 h2 h3=>(S.slot i p sl oa h1 h2 h3).move (fun a o g=>⟨hk a o g.1 fun d=>g.2 (.inl (hD a d).1),g.2⟩)
  (fun _ r=>r.at fun o g=>hk _ o g fun d=>(B.pl p (List.mem_of_getElem? h1)).2 (hD _ d).1) (fun r=>r.at fun o g=>hk _ o g fun d=>(B.pl p (List.mem_of_getElem? h1)).2 (hD _ d).1)
  fun a e o g=>hk a o g fun d=>(S.ow i a (e▸h3)).elim (fun q=>q.2 (hD a d).1) fun q=>(hD a d).2.1 q.2
 sep:=S.sep
 dis:=S.dis
 ti:=ti
 own0:=S.own0
theorem St.grow (hk:iG h h1):St B own ρ h1:=S.chg (D:=fun _=>False) (fun b o g _=>hk b o g) (fun _=>False.elim) (K.T.mono _ _ (fun a o g=>⟨hk a o g.1,g.2⟩) S.ti)
theorem St.poke {D:Addr→Prop}(hd:∀d,D d→B.out d∧K.N≤d)(hk:∀b o,h.get? b=some o→¬D b→h1.get? b=some o)(hl:∀d,D d→∃o,h1.get? d=some o):St B own ρ h1:=
 S.chg (D:=D) hk (fun b q=>⟨(hd b q).1,fun e=>absurd (B.ioN _ e).1 (Nat.not_lt.mpr (hd b q).2),.inr (hl b q)⟩)
  (K.T.mono _ _ (fun a o g=>⟨hk a o g.1 fun q=>g.2.elim (fun t=>absurd (B.tbN a t).1 (Nat.not_lt.mpr (hd a q).2)) fun n=>n (.inl (hd a q).1),g.2⟩) S.ti)
theorem St.put {B':Bs K}(hP:B'.pls=B.pls)(hO:∀a,B'.out a→B.out a){i:Nat}{p:Pl}{oa:Option Addr}{sl:aE}{D:Addr→Prop}(hp:B.pls[i]? =some p)(hk:∀b o,h.get? b=some o→¬D b→h1.get? b=some o)
  (hD:∀b,D b→K.T.tb b∨b=p.addr∨own[i]? =some (some b)) (hr:∀q∈B.pls,q≠p→(∀v,rd h q v→rd h1 q v)∧(there h q→there h1 q))
  (ns:jC K.P (gv B' (own.set i oa) h1) h1 p oa sl) (ho:∀a,oa=some a→((K.N≤a∧¬B'.out a)∨(i=0∧K.io=some a))∧¬cQ B.pls a∧∀j,j≠i→own[j]? ≠some (some a))
  (hg:∀a o,gv B own h a o→gv B' (own.set i oa) h1 a o) (hl:∀b,D b→K.T.tb b∨∃o,h1.get? b=some o) (ti:K.T.inv (gt B' (own.set i oa) h1)) (h0:∀a,K.io=some a→i=0→oa=some a):St B' (own.set i oa) (ρ.set i sl) h1 where
 bs:=fun a o e=>hk a o (S.bs a o e) fun d=>by
  have n:∀{b},K.bs.get? b=none→b≠a:=fun q r=>by subst r;rw [e] at q;cases q
  rcases hD a d with t|rfl|m
  ·exact (B.bas a o e).2.1 (B.tbN a t).2.1
  ·exact n (UC (List.mem_of_getElem? hp)).2.1 rfl
  ·exact n (S.ownX (List.mem_of_getElem? m)).2.2.1 rfl
 live:=fun a x=>Classical.byCases (fun d:D a=>(hl a d).imp (fun t=>(B.tbN a t).1) id) fun d=>(S.live a (hO a x)).imp id fun ⟨o,g⟩=>⟨o,hk a o g d⟩
 ow:=fun j a q=>(fH q).elim (fun q=>by refine (Eq.symm q.1)▸?_;exact (ho a q.2.symm).1) fun q=>(S.ow j a q.2).imp (fun q=>⟨q.1,fun x=>q.2 (hO a x)⟩) id
 lenP:=by refine (Eq.symm List.length_set)▸?_;refine (Eq.symm hP)▸?_;exact S.lenP
 lenO:=by refine (Eq.symm List.length_set)▸?_;refine (Eq.symm List.length_set)▸?_;exact S.lenO
 slot:=fun j q sl' oa' h1' h2' h3'=>by
  rw [hP] at h1'
  rcases fH h2' with ⟨rfl,rfl⟩|⟨n,h2'⟩
  ·rcases fH h3' with ⟨_,rfl⟩|⟨n,_⟩
   ·rw [hp] at h1';cases h1';exact ns
   ·exact absurd rfl n
  ·rcases fH h3' with ⟨e,_⟩|⟨_,h3'⟩
   ·exact absurd e n
   ·have hq:q≠p:=by
     rintro rfl
     exact n ((List.getElem?_inj (List.getElem?_eq_some_iff.mp h1').1 B.pnd).mp (h1'.trans hp.symm))
    refine (S.slot j q sl' oa' h1' h2' h3').move hg (hr q (List.mem_of_getElem? h1') hq).1 (hr q (List.mem_of_getElem? h1') hq).2 fun a e o g=>hk a o g fun d=>?_
    subst e
    rcases hD a d with t|rfl|m
    ·exact (S.ownX (List.mem_of_getElem? h3')).1 t
    ·exact S.sep j _ h3' ⟨p,List.mem_of_getElem? hp,rfl⟩
    ·exact n (S.dis j i a h3' m)
 sep:=fun j a q x=>(fH q).elim (fun q=>(ho a q.2.symm).2.1 (hP▸x)) fun q=>S.sep j a q.2 (hP▸x)
 dis:=fun j k a q1 q2=>by
  rcases fH q1 with ⟨d1,e1⟩|⟨n1,r1⟩
  ·rcases fH q2 with ⟨d2,_⟩|⟨n2,r2⟩
   ·exact d1.trans d2.symm
   ·exact absurd r2 ((ho a e1.symm).2.2 k n2)
  ·rcases fH q2 with ⟨_,e2⟩|⟨n2,r2⟩
   ·exact absurd r1 ((ho a e2.symm).2.2 j n1)
   ·exact S.dis j k a r1 r2
 ti:=ti
 own0:=fun a e=>by
  by_cases hi:i=0
  ·subst hi
   have:=S.own0 a e
   refine (Eq.symm (List.getElem?_set_self (List.getElem?_eq_some_iff.mp this).1))▸?_;exact (Eq.symm (h0 a e rfl))▸rfl
  ·refine (Eq.symm (List.getElem?_set_ne hi))▸?_;exact S.own0 a e
end
end
end Mine.Internal
set_option genInjectivity false
namespace Mine.Internal
section
variable {K:Kx}{B:Bs K}{own:sV}{ρ:Fm}{h h1 h2:Heap}
structure kJ (h:Heap)(p:Pl)(v:Value)(h1:Heap):Prop where
 same:∀b o,h.get? b=some o→b≠p.addr→h1.get? b=some o
 holds:rd h1 p v
 oth:∀q,q≠p→(∀u,rd h q u→rd h1 q u)∧(there h q→there h1 q)
theorem xO {L:Addr}{x:Str}{v:Value}{m:Str→Option Value}(hn:h.Ns L m)(hn':h1.Ns L (fun y=>if y=x then some v else m y))(hs:Heap.SameBut L h h1):kJ h (.loc L x) v h1:=by
 have sm:∀b o,h.get? b=some o→b≠L→h1.get? b=some o:=fun b o g n=>(hs.2 b n).trans g
 refine ⟨sm,⟨_,hn',if_pos rfl⟩,fun q hq=>?_⟩
 by_cases e:q.addr=L
 ·cases q with
  |loc L' y=>
   replace e:L'=L:=e
   subst e
   have ne:y≠x:=fun e=>hq (by exact (Eq.symm e)▸rfl)
   exact ⟨fun u ⟨m',a,b⟩=>⟨_,hn',(if_neg ne).trans (AG a hn▸b)⟩,fun _=>⟨_,hn'⟩⟩
  |cel c=>
   replace e:c=L:=e
   subst e
   have no:∀o u,h.get? c=some o→o.data=.cell u→False:=fun o u a b=>by
    refine dA hn fun o' es ep c1 c2 _=>?_
    rw [a] at c1;cases c1;rw [b] at c2;cases c2
   exact ⟨fun u ⟨o,a,b⟩=>(no o _ a b).elim,fun ⟨o,u,a,b⟩=>(no o _ a b).elim⟩
 ·exact ⟨fun u r=>r.at fun o g=>sm _ o g e,fun r=>r.at fun o g=>sm _ o g e⟩
theorem oV {c:Addr}{u:Option Value}{v:Value}(a:h.IsCell c u)(b:h1.IsCell c (some v))(hs:Heap.SameBut c h h1):kJ h (.cel c) v h1:=by
 have sm:∀b o,h.get? b=some o→b≠c→h1.get? b=some o:=fun b o g n=>(hs.2 b n).trans g
 refine ⟨sm,b,fun q hq=>?_⟩
 by_cases e:q.addr=c
 ·cases q with
  |loc L y=>
   replace e:L=c:=e
   subst e
   have no:∀m,h.Ns L m→False:=fun m hn=>by
    refine dA hn fun o' es ep c1 c2 _=>?_
    refine aD a fun o a1 a2=>?_
    rw [a1] at c1;cases c1;rw [a2] at c2;cases c2
   exact ⟨fun u ⟨m,a,_⟩=>(no m a).elim,fun ⟨m,a⟩=>(no m a).elim⟩
  |cel c'=>replace e:c'=c:=e;exact absurd (e▸rfl) hq
 ·exact ⟨fun u r=>r.at fun o g=>sm _ o g e,fun r=>r.at fun o g=>sm _ o g e⟩
theorem GI {i:Nat}{oa:Option Addr}{a:Addr}(x:Xs B (own.set i oa) a):Xs B own a∨oa=some a:=by
 rcases x with x|x|x
 ·exact .inl (.inl x)
 ·exact .inl (.inr (.inl x))
 ·exact (List.mem_or_eq_of_mem_set x).imp (fun q=>.inr (.inr q)) Eq.symm
theorem xP {i:Nat}{oa:Option Addr}(hk:∀b o,h.get? b=some o→¬cQ B.pls b→h1.get? b=some o)(hf:∀a,oa=some a→∀o,h.get? a≠some o):Gw K B.pls own h (own.set i oa) h1:=
 ⟨fun a o g _ p _=>hk a o g p,fun a m=>(List.mem_or_eq_of_mem_set m).imp id fun q=>.inr (.inr (hf a q.symm))⟩
theorem qQ {B':Bs K}{own1:sV}(w:∀a o,gv B own h a o→gv B' own1 h1 a o)(t:∀a o,K.T.tb a→h.get? a=some o→h1.get? a=some o)(a:Addr)(o:Obj)(g:gt B own h a o):gt B' own1 h1 a o:=
 Classical.byCases (fun q:K.T.tb a=>⟨t a o q g.1,.inl q⟩) fun q=>let z:=w a o ⟨g.1,g.2.resolve_left q⟩;⟨z.1,.inr z.2⟩
section
variable (S:St B own ρ h)
include S
theorem St.store_v {i:Nat}{p:Pl}{pv:Value}{x:V}(hi0:K.io=none∨i≠0)(hp:B.pls[i]? =some p)(U:kJ h p pv h1)(hr:Rp K.P (gv B own h) pv x):
  St B (own.set i none) (ρ.set i (.v x)) h1∧Gw K B.pls own h (own.set i none) h1:=by
 have hpm:p∈B.pls:=List.mem_of_getElem? hp
 have w:Gw K B.pls own h (own.set i none) h1:=xP (fun b o g n=>U.same b o g fun e=>n ⟨p,hpm,e.symm⟩) fun a q=>nomatch q
 exact ⟨S.put (B':=B) rfl (fun _=>id) (D:=fun b=>b=p.addr) hp U.same (fun _ d=>.inr (.inl d)) (fun q _=>U.oth q) ⟨pv,U.holds,hr.mono w.g⟩ (fun a q=>nomatch q) w.g (fun b d=>.inr (d▸U.holds.there.live.imp fun _ q=>q.1))
  (K.T.mono _ _ (qQ w.g fun a o t g=>U.same a o g fun e=>(UC hpm).1 (e▸t)) S.ti) fun a e q=>hi0.elim (fun z=>by rw [z] at e;cases e) fun z=>(z q).elim,w⟩
theorem St.store_o {i:Nat}{p:Pl}{a:Addr}{sl:aE}(hi0:K.io=none∨i≠0)(hp:B.pls[i]? =some p)(hk:iG h h1)(ha:cG h a)(U:kJ h1 p (.ref a) h2)(hr:dB K.P (gv B own h) h1 a sl):
  St B (own.set i (some a)) (ρ.set i sl) h2∧Gw K B.pls own h (own.set i (some a)) h2:=by
 have hpm:p∈B.pls:=List.mem_of_getElem? hp
 refine uY (S.fresh ha) fun f1 f2 f3 f4=>?_
 have w:Gw K B.pls own h (own.set i (some a)) h2:=xP (fun b o g n=>U.same b o (hk _ _ g) fun e=>n ⟨p,hpm,e.symm⟩) fun _ q=>by cases q;exact fun o g=>ha.none g
 have hpa:a≠p.addr:=fun e=>f1 (.inr (.inl ⟨p,hpm,e.symm⟩))
 refine ⟨S.put (B':=B) rfl (fun _=>id) (D:=fun b=>b=p.addr) hp (fun b o g n=>U.same b o (hk _ _ g) n) (fun _ d=>.inr (.inl d)) (fun q _ n=>⟨fun v r=>(U.oth q n).1 v (r.at fun o=>hk _ o),fun r=>(U.oth q n).2 (r.at fun o=>hk _ o)⟩)
  ⟨U.holds,hr.move w.g fun o g=>U.same a o g hpa⟩ ?_ w.g (fun b d=>.inr (d▸U.holds.there.live.imp fun _ q=>q.1))
  (K.T.mono _ _ (qQ w.g fun a o t g=>U.same a o (hk _ _ g) fun e=>(UC hpm).1 (e▸t)) S.ti) fun a e q=>hi0.elim (fun z=>by rw [z] at e;cases e) fun z=>(z q).elim,w⟩
 rintro _ ⟨rfl⟩
 exact ⟨.inl ⟨f2,fun x=>f1 (.inl x)⟩,fun x=>f1 (.inr (.inl x)),fun j _ q=>f1 (.inr (.inr (List.mem_of_getElem? q)))⟩
theorem St.upd {i:Nat}{a:Addr}{sl:aE}(ho:own[i]? =some (some a))(hk:∀b o,h.get? b=some o→¬(K.T.tb b∨b=a)→h1.get? b=some o)(ti:K.T.inv (gt B own h1))(hr:dB K.P (gv B own h1) h1 a sl):
  St B own (ρ.set i sl) h1∧Gr K B.pls own h own h1:=by
 have hm:=List.mem_of_getElem? ho
 have ha:=S.ownX hm
 have e:own.set i (some a)=own:=by
  refine List.ext_getElem? fun j=>?_
  by_cases q:i=j
  ·subst q;refine (Eq.symm (List.getElem?_set_self (List.getElem?_eq_some_iff.mp ho).1))▸?_;exact (Eq.symm ho)▸rfl
  ·exact (Eq.symm (List.getElem?_set_ne q))▸rfl
 refine aR (gO ho (S.lenO.trans S.lenP.symm)) fun p hp=>?_
 have hpl:∀q∈B.pls,∀o,h.get? q.addr=some o→h1.get? q.addr=some o:=fun q hq o g=>hk _ o g fun d=>d.elim (UC hq).1 fun d=>ha.2.1 ⟨q,hq,d⟩
 have w:Gr K B.pls own h own h1:=⟨⟨fun b o g t _ n=>hk b o g fun d=>d.elim t fun d=>n (d▸hm),fun _ m=>.inl m⟩,fun q hq v r=>r.at (hpl q hq)⟩
 refine aR (gO ho S.lenO) fun sl0 hs=>?_
 have hr0:=S.slot i p sl0 _ hp hs ho
 have:=S.put (B':=B) rfl (fun _=>id) (oa:=some a) (sl:=sl) (D:=fun b=>K.T.tb b∨b=a) hp hk (fun b (d:K.T.tb b∨b=a)=>d.imp id fun (d:b=a)=>.inr (d▸ho)) (fun q hq _=>⟨fun v r=>r.at (hpl q hq),fun r=>r.at (hpl q hq)⟩) ⟨hr0.1.at (hpl p (List.mem_of_getElem? hp)),by refine (Eq.symm e)▸?_;exact hr⟩ ?_ (by refine (Eq.symm e)▸?_;exact w.g)
  (fun b (d:K.T.tb b∨b=a)=>d.imp id fun (d:b=a)=>d▸hr.live) (by refine (Eq.symm e)▸?_;exact ti) fun b q1 q2=>?_
 ·rw [e] at this;exact ⟨this,w⟩
 ·rintro _ ⟨rfl⟩
  exact ⟨S.ow i a ho,ha.2.1,fun j n q=>n (S.dis j i a q ho)⟩
 ·subst q2
  have:=S.own0 b q1
  rw [ho] at this;exact Option.some.inj this
omit S in
theorem OM {i:Nat}{a:Addr}(x:Xs B (own.set i none) a):Xs B own a:=(GI x).resolve_right nofun
theorem St.freeze {i:Nat}{sl:aE}{y:V}(hi:ρ[i]? =some sl)(hio:K.io=none∨i≠0)(hy:(∃l,sl=.l l∧y=.lst l)∨∃l,sl=.d l∧y=.dct l):
  ∃a p,B.pls[i]? =some p∧rd h p (.ref a)∧St B (own.set i none) (ρ.set i (.v y)) h∧Gr K B.pls own h (own.set i none) h∧Rp K.P (gv B (own.set i none) h) (.ref a) y:=by
 refine bN (S.get hi) fun p oa hp ho k=>?_
 have hg:∀b o,gv B own h b o→gv B (own.set i none) h b o:=fun b o g=>⟨g.1,fun q=>g.2 (OM q)⟩
 cases oa with
 |none=>rcases hy with ⟨l,rfl,_⟩|⟨l,rfl,_⟩<;>exact k.elim
 |some a=>
  have hm:=List.mem_of_getElem? ho
  have hnX:¬Xs B (own.set i none) a:=by
   rintro (q|q|q)
   ·rcases S.ow i a ho with r|⟨r1,r2⟩
    ·exact r.2 q
    ·rcases hio with r|r
     ·rw [r] at r2;cases r2
     ·exact r r1
   ·exact S.sep i a ho q
   ·refine aR (ix q) fun j hj=>?_
    rcases fH hj with ⟨_,q⟩|⟨n,hj⟩
    ·cases q
    ·exact n (S.dis j i a hj ho)
  have hr:Rp K.P (gv B (own.set i none) h) (.ref a) y:=by
   rcases hy with ⟨l,rfl,rfl⟩|⟨l,rfl,rfl⟩
   ·refine aF k fun _ aqT=>?_;obtain ⟨vs,n,g,q⟩:=aqT;exact (gE a vs n ⟨rfl,⟨g,hnX⟩,q.mono hg⟩)
   ·refine aF k fun _ aqU=>?_;obtain ⟨vs,n,g,q,d⟩:=aqU;exact (gE a vs n ⟨rfl,⟨g,hnX⟩,q.mono hg,d⟩)
  exact ⟨a,p,hp,k.1,S.put (B':=B) rfl (fun _=>id) (oa:=none) (sl:=.v y) (D:=fun _=>False) hp (fun b o g _=>g) (fun _=>False.elim) (fun _ _ _=>⟨fun _ r=>r,id⟩) ⟨.ref a,k.1,hr⟩ (fun _ q=>nomatch q) hg (fun _=>False.elim)
   (K.T.mono _ _ (qQ hg fun _ _ _ g=>g) S.ti) fun a e q=>hio.elim (fun z=>by rw [z] at e;cases e) fun z=>(z q).elim,⟨xP (fun _ _ g _=>g) fun _ q=>(nomatch q),fun _ _ _ r=>r⟩,hr⟩
omit S in
noncomputable def Bs.hide (B:Bs K)(D:Addr→Prop)(hd:∀d,D d→K.N≤d∧¬cQ B.pls d):Bs K where
 out:=fun a=>B.out a∨D a
 pls:=B.pls
 tbN:=fun a t=>⟨(B.tbN a t).1,.inl (B.tbN a t).2.1,(B.tbN a t).2.2⟩
 bas:=fun a o e=>⟨(B.bas a o e).1,fun x=>x.elim (B.bas a o e).2.1 fun q=>absurd (B.bas a o e).1 (Nat.not_lt.mpr (hd a q).1),(B.bas a o e).2.2⟩
 pl:=fun p hp=>⟨(B.pl p hp).1,fun x=>x.elim (B.pl p hp).2 fun q=>(hd _ q).2 ⟨p,hp,rfl⟩⟩
 pnd:=B.pnd
 ne:=B.ne
 ioN:=B.ioN
 sys:=⟨.inl B.sys.1,B.sys.2⟩
theorem St.hd {D:Addr→Prop}(f:∀d,D d→cG h d)(d:Addr)(q:D d):K.N≤d∧¬cQ B.pls d:=⟨(S.fresh (f d q)).2.1,fun x=>(S.fresh (f d q)).1 (.inr (.inl x))⟩
omit S in
theorem sW {D:Addr→Prop}(hk:iG h h1)(f:∀d,D d→cG h d)(hd:∀d,D d→K.N≤d∧¬cQ B.pls d)(a:Addr)(o:Obj)(g:gv B own h a o):gv (B.hide D hd) own h1 a o:=
 ⟨hk a o g.1,fun x=>x.elim (fun x=>x.elim (fun x=>g.2 (.inl x)) fun x=>(f a x).none g.1) fun x=>g.2 (.inr x)⟩
theorem St.hide {D:Addr→Prop}(hk:iG h h1)(f:∀d,D d→cG h d)(hd:∀d,D d→K.N≤d∧¬cQ B.pls d)(hl:∀d,D d→∃o,h1.get? d=some o):St (B.hide D hd) own ρ h1 where
 bs:=fun a o e=>hk a o (S.bs a o e)
 live:=fun a x=>x.elim (fun x=>(S.live a x).imp id fun q=>q.imp fun o=>hk a o) fun x=>.inr (hl a x)
 ow:=fun i a e=>(S.ow i a e).imp (fun q=>⟨q.1,fun x=>x.elim q.2 fun x=>aR (S.ownLive (List.mem_of_getElem? e)) fun _ g=>(f a x).none g⟩) id
 lenP:=S.lenP
 lenO:=S.lenO
 slot:=fun i p sl oa h1' h2' h3'=>(S.slot i p sl oa h1' h2' h3').move (sW hk f hd) (fun _ r=>r.at fun o=>hk _ o) (fun r=>r.at fun o=>hk _ o) fun a _ o=>hk a o
 sep:=S.sep
 dis:=S.dis
 ti:=K.T.mono _ _ (qQ (B:=B) (own:=own) (h:=h) (fun a o g=>sW hk f hd a o g) fun a o _=>hk a o) S.ti
 own0:=S.own0
end
theorem sX {B':Bs K}{D:Addr→Prop}(hp:B'.pls=B.pls)(ho:∀a,B'.out a→B.out a)(hD:∀d,D d→B.out d∧K.N≤d)(hk:∀b o,h.get? b=some o→¬D b→h1.get? b=some o)(a:Addr)(o:Obj)(g:gv B own h a o):gv B' own h1 a o:=
 ⟨hk a o g.1 fun d=>g.2 (.inl (hD a d).1),fun x=>g.2 (x.imp (ho a) fun x=>x.imp (fun x=>hp▸x) id)⟩
theorem St.less {B':Bs K}{D:Addr→Prop}(S:St B own ρ h)(hp:B'.pls=B.pls)(ho:∀a,B'.out a→B.out a)(hD:∀d,D d→B.out d∧K.N≤d)(hk:∀b o,h.get? b=some o→¬D b→h1.get? b=some o)(hl:∀d,D d→B'.out d→∃o,h1.get? d=some o):St B' own ρ h1 where
 bs:=fun a o e=>hk a o (S.bs a o e) fun q=>absurd (B.bas a o e).1 (Nat.not_lt.mpr (hD a q).2)
 live:=fun a x=>Classical.byCases (fun d:D a=>.inr (hl a d x)) fun d=>(S.live a (ho a x)).imp id fun ⟨o,g⟩=>⟨o,hk a o g d⟩
 ow:=fun i a e=>(S.ow i a e).imp (fun q=>⟨q.1,fun x=>q.2 (ho a x)⟩) id
 lenP:=hp▸S.lenP
 lenO:=S.lenO
 slot:=fun i p sl oa h1' h2' h3'=>by
  rw [hp] at h1'
  have n:¬D p.addr:=fun q=>(B.pl p (List.mem_of_getElem? h1')).2 (hD _ q).1
  refine (S.slot i p sl oa h1' h2' h3').move (sX hp ho hD hk) (fun _ r=>r.at fun o g=>hk _ o g n) (fun r=>r.at fun o g=>hk _ o g n) fun a e o g=>hk a o g fun q=>?_
  exact (S.ow i a (e▸h3')).elim (fun r=>r.2 (hD a q).1) fun r=>absurd (B.ioN a r.2).1 (Nat.not_lt.mpr (hD a q).2)
 sep:=fun i a e x=>S.sep i a e (hp▸x)
 dis:=S.dis
 ti:=K.T.mono _ _ (qQ (B:=B) (own:=own) (h:=h) (sX hp ho hD hk) fun a o t g=>hk a o g fun q=>absurd (B.tbN a t).1 (Nat.not_lt.mpr (hD a q).2)) S.ti
 own0:=S.own0
theorem oW {D:Addr→Prop}{hd:∀d,D d→K.N≤d∧¬cQ B.pls d}(hk:∀b o,h.get? b=some o→¬D b→h1.get? b=some o)(a:Addr)(o:Obj)(g:gv (B.hide D hd) own h a o):gv B own h1 a o:=
 sX (B:=B.hide D hd) (B':=B) rfl (fun _=>.inl) (fun d m=>⟨.inr m,(hd d m).1⟩) hk a o g
theorem St.unhide {D:Addr→Prop}{hd:∀d,D d→K.N≤d∧¬cQ B.pls d}(S:St (B.hide D hd) own ρ h)(ho:∀d,D d→¬B.out d)(hk:∀b o,h.get? b=some o→¬D b→h1.get? b=some o):St B own ρ h1:=
 S.less (B':=B) rfl (fun _=>.inl) (fun d m=>⟨.inr m,(hd d m).1⟩) hk fun d m x=>absurd x (ho d m)
theorem St.adopt {D:Addr→Prop}{hd:∀d,D d→K.N≤d∧¬cQ B.pls d}(S:St (B.hide D hd) own ρ h){i:Nat}{p:Pl}{d:Addr}{sl:aE}(hi0:K.io=none∨i≠0)(hp:B.pls[i]? =some p)(hD:D d)(ho:¬B.out d)(U:kJ h p (.ref d) h1)(hr:dB K.P (gv (B.hide D hd) own h) h d sl)
  {hd':∀a,D a∧a≠d→K.N≤a∧¬cQ B.pls a}:St (B.hide (fun a=>D a∧a≠d) hd') (own.set i (some d)) (ρ.set i sl) h1∧∀a o,gv (B.hide D hd) own h a o→gv (B.hide (fun a=>D a∧a≠d) hd') (own.set i (some d)) h1 a o:=by
 have hpm:p∈(B.hide D hd).pls:=List.mem_of_getElem? hp
 have hpd:d≠p.addr:=fun e=>(hd d hD).2 ⟨p,hpm,e.symm⟩
 have hg:∀a o,gv (B.hide D hd) own h a o→gv (B.hide (fun a=>D a∧a≠d) hd') (own.set i (some d)) h1 a o:=fun a o g=>⟨U.same a o g.1 fun e=>g.2 (.inr (.inl ⟨p,hpm,e.symm⟩)),fun x=>(GI x).elim (fun x=>g.2 (x.imp (fun x=>x.imp id And.left) id)) fun e=>g.2 (.inl (.inr (Option.some.inj e▸hD)))⟩
 refine ⟨S.put (B':=B.hide (fun a=>D a∧a≠d) hd') rfl (fun a x=>x.imp id And.left) (D:=fun b=>b=p.addr) hp U.same (fun _ d=>.inr (.inl d)) (fun q _=>U.oth q) ⟨U.holds,hr.move hg fun o g=>U.same d o g hpd⟩ ?_ hg (fun b e=>.inr (e▸U.holds.there.live.imp fun _ q=>q.1))
  (K.T.mono _ _ (qQ (B:=B.hide D hd) (own:=own) (h:=h) hg fun a o t g=>U.same a o g fun e=>(UC hpm).1 (e▸t)) S.ti) fun a e q=>hi0.elim (fun z=>by rw [z] at e;cases e) fun z=>(z q).elim,hg⟩
 rintro _ ⟨rfl⟩
 exact ⟨.inl ⟨(hd d hD).1,fun x=>x.elim ho fun x=>x.2 rfl⟩,(hd d hD).2,fun j _ q=>(S.ownX (List.mem_of_getElem? q)).2.2.2.elim (fun q=>q.2 (.inr hD)) fun q=>absurd (B.ioN d q).1 (Nat.not_lt.mpr (hd d hD).1)⟩
noncomputable def Bs.wide (B:Bs K)(C:Addr)(vars:List Str)(hC:K.N≤C∧¬B.out C∧¬cQ B.pls C)(hv:vars.Nodup):Bs K where
 out:=B.out
 pls:=B.pls++vars.map (.loc C)
 tbN:=B.tbN
 bas:=B.bas
 pl:=fun p hp=>(List.mem_append.mp hp).elim (B.pl p) fun hp=>by refine aD (List.mem_map.mp hp) fun y _ aqB=>?_;subst aqB;exact ⟨hC.1,hC.2.1⟩
 pnd:=List.nodup_append.mpr ⟨B.pnd,List.Pairwise.map _ (fun a b (n:a≠b) e=>n (Pl.loc.inj e).2) hv,fun a ha b hb e=>by
  refine aD (List.mem_map.mp hb) fun y _ aqC=>?_;subst aqC
  exact hC.2.2 ⟨a,ha,by refine (Eq.symm e)▸?_;rfl⟩⟩
 ne:=fun e=>B.ne (List.append_eq_nil_iff.mp e).1
 ioN:=B.ioN
 sys:=B.sys
section
variable {C:Addr}{vars:List Str}{hC:K.N≤C∧¬B.out C∧¬cQ B.pls C}{hv:vars.Nodup}
theorem jQ {a:Addr}(x:cQ (B.pls++vars.map (.loc C)) a):cQ B.pls a∨a=C:=by
 refine aD x fun p hp aqD=>?_;subst aqD
 rcases List.mem_append.mp hp with hp|hp
 ·exact .inl ⟨p,hp,rfl⟩
 ·refine aD (List.mem_map.mp hp) fun y _ aqE=>?_;subst aqE;exact .inr rfl
theorem jD {n i:Nat}{a:Addr}(e:(own++List.replicate n none)[i]? =some (some a)):own[i]? =some (some a):=by
 by_cases hi:i<own.length
 ·rwa [List.getElem?_append_left hi] at e
 ·rw [List.getElem?_append_right (Nat.le_of_not_lt hi),List.getElem?_replicate] at e
  split at e<;>cases e
theorem VX {a:Addr}{n:Nat}(x:Xs (B.wide C vars hC hv) (own++List.replicate n none) a):Xs B own a∨a=C:=by
 rcases x with x|x|x
 ·exact .inl (.inl x)
 ·exact (jQ x).imp (fun x=>.inr (.inl x)) id
 ·refine aR (ix x) fun i hi=>?_
  exact .inl (.inr (.inr (List.mem_of_getElem? (jD hi))))
theorem St.wide (S:St B own ρ h){m:Str→Option Value}(hk:iG h h1)(f:cG h C)(hn:h1.Ns C m):
  St (B.wide C vars hC hv) (own++List.replicate vars.length none) (ρ++List.replicate vars.length .un) h1∧∀a o,gv B own h a o→gv (B.wide C vars hC hv) (own++List.replicate vars.length none) h1 a o:=by
 have hg:∀a o,gv B own h a o→gv (B.wide C vars hC hv) (own++List.replicate vars.length none) h1 a o:=fun a o g=>⟨hk a o g.1,fun x=>(VX x).elim g.2 fun q=>f.none (q▸g.1)⟩
 refine ⟨⟨fun a o e=>hk a o (S.bs a o e),fun a x=>(S.live a x).imp id fun q=>q.imp fun o=>hk a o,fun i a e=>S.ow i a (jD e),?_,?_,fun i p sl oa h1' h2' h3'=>?_,fun i a e x=>?_,fun i j a h1' h2'=>S.dis i j a (jD h1') (jD h2'),
  K.T.mono _ _ (qQ (B:=B) (own:=own) (h:=h) hg fun a o _=>hk a o) S.ti,fun a e=>?_⟩,hg⟩
 ·show (B.pls++_).length=_
  rw [List.length_append,List.length_append,List.length_map,List.length_replicate,S.lenP]
 ·rw [List.length_append,List.length_append,List.length_replicate,List.length_replicate,S.lenO]
 ·replace h1':(B.pls++vars.map (.loc C))[i]? =some p:=h1'
  by_cases hi:i<ρ.length
  ·rw [List.getElem?_append_left (S.lenP▸hi)] at h1'
   rw [List.getElem?_append_left hi] at h2'
   rw [List.getElem?_append_left (S.lenO▸hi)] at h3'
   exact (S.slot i p sl oa h1' h2' h3').move hg (fun _ r=>r.at fun o=>hk _ o) (fun r=>r.at fun o=>hk _ o) fun a _ o=>hk a o
  ·have hi:=Nat.le_of_not_lt hi
   rw [List.getElem?_append_right (S.lenP▸hi)] at h1'
   rw [List.getElem?_append_right hi,List.getElem?_replicate] at h2'
   rw [List.getElem?_append_right (S.lenO▸hi),List.getElem?_replicate] at h3'
   split at h2'<;>cases h2'
   split at h3'<;>cases h3'
   refine aD (List.mem_map.mp (List.mem_of_getElem? h1')) fun y _ aqF=>?_;subst aqF
   exact ⟨m,hn⟩
 ·have e:=jD e
  exact (jQ x).elim (S.sep i a e) fun q=>aR (S.ownLive (List.mem_of_getElem? e)) fun _ g=>f.none (q▸g)
 ·have q:=S.own0 a e
  rw [List.getElem?_append_left (List.getElem?_eq_some_iff.mp q).1];exact q
theorem xQ (h0:vars≠[]):cQ (B.pls++vars.map (.loc C)) C:=aR (List.exists_mem_of_ne_nil vars h0) fun y hy=>⟨.loc C y,List.mem_append_right _ (List.mem_map_of_mem hy),rfl⟩
theorem GJ {a:Addr}(x:cQ B.pls a):cQ (B.pls++vars.map (.loc C)) a:=x.imp fun p q=>⟨List.mem_append_left _ q.1,q.2⟩
theorem oX (h0:vars≠[]){hd:∀d,d=C→K.N≤d∧¬cQ B.pls d}(a:Addr)(o:Obj)(g:gv (B.wide C vars hC hv) own h a o):gv (B.hide (fun d=>d=C) hd) (own.take B.pls.length) h a o:=
 ⟨g.1,fun x=>g.2 (x.elim (fun x=>x.elim .inl fun e=>.inr (.inl (e▸xQ h0))) fun x=>.inr (x.imp GJ List.mem_of_mem_take))⟩
theorem jE {n i:Nat}{a:Addr}(e:(own.take n)[i]? =some (some a)):own[i]? =some (some a):=by
 rw [List.getElem?_take] at e;split at e
 ·exact e
 ·cases e
theorem St.narrow (S:St (B.wide C vars hC hv) own ρ h)(h0:vars≠[]){hd:∀d,d=C→K.N≤d∧¬cQ B.pls d}:St (B.hide (fun d=>d=C) hd) (own.take B.pls.length) (ρ.take B.pls.length) h:=by
 have le:B.pls.length≤ρ.length:=by rw [←S.lenP];show _≤(B.pls++_).length;rw [List.length_append];exact Nat.le_add_right _ _
 have sp:∀{i:Nat} {a:Addr},own[i]? =some (some a)→a≠C:=fun e q=>S.sep _ _ e (q▸xQ h0)
 exact ⟨S.bs,fun a x=>x.elim (S.live a) fun e=>(S.xlive (.inr (.inl (e▸xQ h0)))),fun i a e=>(S.ow i a (jE e)).imp (fun q=>⟨q.1,fun x=>x.elim q.2 (sp (jE e))⟩) id,(List.length_take_of_le le).symm,
  (List.length_take_of_le (S.lenO▸le)).trans (List.length_take_of_le le).symm,fun i p sl oa h1' h2' h3'=>by
   have hi:i<B.pls.length:=(List.getElem?_eq_some_iff.mp h1').1
   rw [List.getElem?_take,if_pos hi] at h2' h3'
   exact (S.slot i p sl oa (by show (B.pls++_)[i]? =_;rw [List.getElem?_append_left hi];exact h1') h2' h3').move (oX h0) (fun _ r=>r) id fun _ _ _ g=>g,fun i a e x=>S.sep i a (jE e) (GJ x),fun i j a h1' h2'=>S.dis i j a (jE h1') (jE h2'),
  K.T.mono _ _ (qQ (B:=B.wide C vars hC hv) (own:=own) (h:=h) (oX h0) fun a o _ g=>g) S.ti,fun a e=>by rw [List.getElem?_take,if_pos (List.length_pos_iff.mpr B.ne)];exact S.own0 a e⟩
theorem AH {n:Nat}{a:Addr}(x:some a∈own++List.replicate n none):some a∈own:=(List.mem_append.mp x).elim id fun x=>(nomatch (List.mem_replicate.mp x).2)
theorem Gw.narrow {own2:sV}(w:Gw K (B.pls++vars.map (.loc C)) (own++List.replicate vars.length none) h own2 h2)(hX:∀o,h.get? C≠some o):Gw K B.pls own h (own2.take B.pls.length) h2:=
 ⟨fun a o g t p m=>w.k a o g t (fun x=>(jQ x).elim p fun e=>hX o (e▸g)) fun x=>m (AH x),
  fun a m=>(w.n a (List.mem_of_mem_take m)).elim (fun x=>.inl (AH x)) fun q=>q.elim (fun t=>.inr (.inl t)) fun q=>q.elim (fun x=>(jQ x).elim (fun p=>.inr (.inr (.inl p))) fun e=>.inr (.inr (.inr fun o=>e▸hX o))) fun d=>.inr (.inr (.inr d))⟩
end
def gn (g:Gh)(h h':Heap):Gh:=fun a o=>g a o∨(h'.get? a=some o∧cG h a)
theorem nK {g:Gh}{h h':Heap}(a:Addr)(o:Obj)(x:g a o):gn g h h' a o:=.inl x
theorem St.gn (S:St B own ρ h)(hk:iG h h1)(a:Addr)(o:Obj)(g:gn (gv B own h) h h1 a o):gv B own h1 a o:=
 g.elim (fun g=>⟨hk a o g.1,g.2⟩) fun g=>⟨g.1,(S.fresh g.2).1⟩
end
abbrev cZ:=List (Option Str)
structure fA (env:Env)(Γ:cZ)(pls:List Pl):Prop where
 kind:env.scope.kind=.function
 gl:env.globals=mainGlobals
 bl:env.builtins=builtinsNs
 names:∀(i:Nat) (x:Str),Γ[i]? =some (some x)→(env.kindOf x=some .local∧pls[i]? =some (.loc env.locals x))∨
  ((env.kindOf x=some .cell∨env.kindOf x=some .free)∧∃c,env.cells.lookup x=some c∧pls[i]? =some (.cel c))
 dbg:∀(i:Nat) (x:Str),Γ[i]? =some (some x)→(x==("__debug__" :Str))=false∧(x==("__classdict__" :Str))=false
 len:Γ.length=pls.length
section
variable {M:Model}{A:Around}{E:Value→Shared→Prop}{s:Shared}{env:Env}{Γ:cZ}{pls:List Pl}{i:Nat}{x:Str}{p:Pl}{v:Value}
theorem fA.load (H:fA env Γ pls)(hx:Γ[i]? =some (some x))(hp:pls[i]? =some p)(r:rd s.heap p v){Q:Value→Shared→Prop}(h:Q v s):wpAny M A (loadName env x) Q E s:=by
 rcases H.names i x hx with ⟨hk,hl⟩|⟨hk,c,hc,hl⟩
 ·rw [hp] at hl;cases hl
  refine aD r fun m hn hv=>?_
  exact wpAny_loadName_local H.kind hk hn hv h
 ·rw [hp] at hl;cases hl
  rcases hk with hk|hk
  ·exact wpAny_loadName_cell H.kind hk hc r h
  ·exact wpAny_loadName_free H.kind hk hc r h (H.dbg i x hx).2
theorem fA.evalName (H:fA env Γ pls)(hx:Γ[i]? =some (some x))(hp:pls[i]? =some p)(r:rd s.heap p v){pos:Pos}{Q:Value→Shared→Prop}(h:Q v s):wpAny M A (eval (.Name x pos) env) Q E s:=
 wpAny_Name (H.load hx hp r h) (H.dbg i x hx).1
theorem oY {env:Env}{name:Str}{c:Addr}{v₀:Option Value}{v:Value}{Q:Unit→Shared→Prop}(hk:env.scope.kind=.function)(hl:env.kindOf name=some .free)
  (hc:env.cells.lookup name=some c) (hv:s.heap.IsCell c v₀)
  (h:∀h',h'.IsCell c (some v)→Heap.SameBut c s.heap h'→Q () {s with heap:=h'}):wpAny M A (storeName env name v) Q E s:=by
 unfold storeName
 simp only [hl,hk]
 exact wpAny_bind (wpAny_cellOf hc (wpAny_cellSet hv h))
theorem fA.store (H:fA env Γ pls)(hx:Γ[i]? =some (some x))(hp:pls[i]? =some p)(r:there s.heap p){Q:Unit→Shared→Prop}
  (h:∀h' tk,kJ s.heap p v h'→Q () {s with heap:=h',toks:=tk}):wpAny M A (storeName env x v) Q E s:=by
 rcases H.names i x hx with ⟨hk,hl⟩|⟨hk,c,hc,hl⟩
 ·rw [hp] at hl;cases hl
  refine aR r fun m hn=>?_
  refine wpAny_storeName_local hk hn (fun h' hn' hs=>h h' _ (xO hn hn' hs)) ?_
  refine (Eq.symm H.kind)▸?_;rfl
 ·rw [hp] at hl;cases hl
  refine cF r fun o u ho hd=>?_
  have hcell:s.heap.IsCell c u:=⟨o,ho,hd⟩
  rcases hk with hk|hk
  ·exact wpAny_storeName_cell H.kind hk hc hcell fun h' hv hs=>h h' _ (oV hcell hv hs)
  ·exact oY H.kind hk hc hcell fun h' hv hs=>h h' _ (oV hcell hv hs)
theorem fA.bind (H:fA env Γ pls)(hx:Γ[i]? =some (some x))(hp:pls[i]? =some p)(r:there s.heap p){Q:Unit→Shared→Prop}
  (h:∀h' tk,kJ s.heap p v h'→Q () {s with heap:=h',toks:=tk}):wpAny M A (bindName env x v) Q E s:=wpAny_bindName (H.store hx hp r h)
theorem fA.quiet (H:fA env Γ pls):interactive env=false:=by
 unfold interactive;refine (Eq.symm H.kind)▸?_;rfl
end
structure iS (bs:Heap)(mg:Str→Option Value)(nmF:Str)(params:Arguments)(body:List Stmt)(scope:Scope)(a:Addr):Prop where
 there:mg nmF=some (.ref a)
 obj:∃o pm cd doc,bs.get? a=some o∧o.data=.func (Calls.docDef nmF params body scope pm cd doc)∧bs.CodeRec cd nmF
 co:scope.isCoroutine=false
 gen:scope.isGenerator=false
 kind:scope.kind=.function
noncomputable def cX:List (Str×Value):=[("len",.builtin "len"),("abs",.builtin "abs"),("tuple",.type "tuple"),("list",.type "list"),("sum",.builtin "sum"),("min",.builtin "min"),("max",.builtin "max"),
 ("range",.type "range"),("enumerate",.type "enumerate"),("sorted",.builtin "sorted"),("dict",.type "dict")]
structure Cx (w:World) where
 prog:Program
 bs:Heap
 mg:Str→Option Value
 mb:Str→Option Value
 nsg:bs.Ns mainGlobals mg
 nsb:bs.Ns builtinsNs mb
 nolim:bs.NoLimit
 glob:∀(i:Nat) (x:Str) (v:V),jB[i]? =some x→glb[i]? =some v→∃pv,mg x=some pv∧Rp w.params (gh bs) pv v
 bi:∀p∈cX,mg p.1=none∧mb p.1=some p.2
 fns:∀(f:Nat) (fn:Fn),nS[f]? =some fn→∃fa o fd,mg fn.name=some (.ref fa)∧bs.get? fa=some o∧o.data=.func fd
 rk:∃a f,mg "RANKS" =some (.ref a)∧bs.MapOf (PySem.strKind prog w) a f∧∀n v,AD (.str n)=some (.int v)→∃t,f (nm n)=some (.int v t)
structure dK (A:Around)(d:Nat):Prop where
 handled:A.handled=none
 depth:A.depth+d≤990
 units:A.units+4*d+400≤9900
section
variable {w:World}(cx:Cx w){A:Around}{E:Value→Shared→Prop}{s:Shared}{env:Env}{Γ:cZ}{pls:List Pl}{x:Str}{v:Value}{pos:Pos}
theorem cY (H:fA env Γ pls)(hk:env.kindOf x=some .globalImplicit)(hg:s.heap.Ns mainGlobals cx.mg)(hv:cx.mg x=some v){Q:Value→Shared→Prop}(h:Q v s)
  (hd:(x==("__debug__" :Str))=false):wpAny (model cx.prog w) A (eval (.Name x pos) env) Q E s:=
 Calls.Name_function_global H.kind hk (Calls.loadGlobal_global (H.gl▸hg) hv h) hd
theorem cH (H:fA env Γ pls)(hk:env.kindOf x=some .globalImplicit)(hg:s.heap.Ns mainGlobals cx.mg)(hb:s.heap.Ns builtinsNs cx.mb)(hm:(x,v)∈cX){Q:Value→Shared→Prop}(h:Q v s)
  (hd:(x==("__debug__" :Str))=false):wpAny (model cx.prog w) A (eval (.Name x pos) env) Q E s:=
 Calls.Name_function_global H.kind hk (Calls.loadGlobal_builtin (H.gl▸hg) (cx.bi _ hm).1 (H.bl▸hb) (cx.bi _ hm).2 h) hd
end
structure Ct where
 w:World
 cx:Cx w
 T:Tb
 A:Around
 C:CF
 N:Nat
 io:Option Addr
 hh:A.handled=none
 hu:A.units+300<cLine
noncomputable abbrev Ct.P (K:Ct):Params:=K.w.params
noncomputable abbrev Ct.M (K:Ct):Model:=model K.cx.prog K.w
noncomputable abbrev Ct.kx (K:Ct):Kx:=⟨K.w.params,K.T,K.cx.bs,K.N,K.io⟩
abbrev dL:=List (Str×NameKind)
structure cU (K:Ct)(ns:dL)(Γ:cZ) extends Bs K.kx where
 env:Env
 ok:fA env Γ pls
 glb:∀x,ns.lookup x=some .globalImplicit→env.kindOf x=some .globalImplicit
 cel:∀x,ns.lookup x=some .cell→env.kindOf x=some .cell
structure Pt where
 own:sV
 ρ:Fm
 s:Shared
noncomputable abbrev Pt.h (σ:Pt):Heap:=σ.s.heap
def Up (s s':Shared):Prop:=s'={s with heap:=s'.heap,toks:=s'.toks}
theorem Up.trans {a b c:Shared}(h:Up a b)(k:Up b c):Up a c:=by unfold Up at*;rw [k,h]
abbrev dZ {K:Kx} (B:Bs K) (σ:Pt):Prop:=St B σ.own σ.ρ σ.s.heap
abbrev gS {K:Kx} (B:Bs K) (σ:Pt):Gh:=gv B σ.own σ.s.heap
abbrev Vl {K:Kx} (B:Bs K) (σ:Pt) (v:Value) (x:V):Prop:=Rp K.P (gS B σ) v x
abbrev Vls {K:Kx} (B:Bs K) (σ:Pt) (v:List Value) (x:List V):Prop:=bJ K.P (gS B σ) v x
structure cV {K:Kx}(B:Bs K)(pu:Bool)(σ σ':Pt):Prop where
 S:dZ B σ'
 w:Gr K B.pls σ.own σ.s.heap σ'.own σ'.s.heap
 u:Up σ.s σ'.s
 p:pu=true→σ'.ρ=σ.ρ
section
variable {K:Kx}{B:Bs K}{a b:Bool}{σ σ1 σ2:Pt}
theorem cV.trans (h:cV B a σ σ1)(k:cV B b σ1 σ2):cV B (a && b) σ σ2:=⟨k.S,h.w.trans k.w,h.u.trans k.u,fun e=>by
 rw [Bool.and_eq_true] at e
 exact (k.p e.2).trans (h.p e.1)⟩
theorem cV.here (S:dZ B σ)(b:Bool):cV B b σ σ:=⟨S,.refl,rfl,fun _=>rfl⟩
theorem cV.thenP (h:cV B a σ σ1)(k:cV B true σ1 σ2):cV B a σ σ2:=⟨k.S,h.w.trans k.w,h.u.trans k.u,fun e=>(k.p rfl).trans (h.p e)⟩
theorem cV.any (h:cV B a σ σ1):cV B false σ σ1:=⟨h.S,h.w,h.u,fun e=>nomatch e⟩
theorem cV.g (h:cV B a σ σ1):∀x o,gS B σ x o→gS B σ1 x o:=h.w.g
end
abbrev qJ {β:Type} (P:Params) (g:Gh) (s:Shared) (k:V→Option β) (z:β) (Q:Value→Shared→Prop):Prop:=
 ∀h' tk r x,iG s.heap h'→k x=some z→Rp P (gn g s.heap h') r x→Q r {s with heap:=h',toks:=tk}
abbrev lF (g:Gh) (s:Shared):Prop:=∀a o,g a o→s.heap.get? a=some o
noncomputable abbrev Pt.to (σ:Pt) (h:Heap) (tk:Tok):Pt:=⟨σ.own,σ.ρ,{σ.s with heap:=h,toks:=tk}⟩
section
variable {β:Type}{K:Kx}{B:Bs K}{a:Bool}{σ σ1:Pt}{k:V→Fm→Option β}{z:β}{Q:Value→Shared→Prop}
theorem cV.new (S:dZ B σ){h':Heap}(tk:Tok)(hk:iG σ.s.heap h'):cV B true σ (σ.to h' tk):=⟨S.grow hk,⟨.ext hk,fun _ _ _ r=>r.at fun o=>hk _ o⟩,rfl,fun _=>rfl⟩
theorem cV.nw (h:cV B a σ σ1)(hp:∀σ' v x,cV B a σ σ'→Vl B σ' v x→k x σ'.ρ=some z→Q v σ'.s):qJ K.P (gS B σ1) σ1.s (fun x=>k x σ1.ρ) z Q:=fun h' tk r x hk hx hr=>
 hp (σ1.to h' tk) r x (h.thenP (.new h.S tk hk)) (hr.mono (h.S.gn hk)) hx
theorem qJ.at {P:Params}{g:Gh}{s:Shared}{k:V→Option β}{z:β}(h:qJ P g s k z Q){r:Value}{x:V}(hx:k x=some z)(hr:Rp P g r x){tk:Tok}:Q r {s with toks:=tk}:=h s.heap tk r x (fun _ _ e=>e) hx (hr.mono nK)
theorem qJ.at0 {P:Params}{g:Gh}{s:Shared}{k:V→Option β}{z:β}(h:qJ P g s k z Q){r:Value}{x:V}(hx:k x=some z)(hr:Rp P g r x):Q r s:=h s.heap s.toks r x (fun _ _ e=>e) hx (hr.mono nK)
end
section
variable (K:Ct)(ns:dL)(Γ:cZ)
def bC (e:E)(pe:Expr):Prop:=∀(B:cU K ns Γ) (σ:Pt) (β:Type) (k:V→Fm→Option β) (z:β) (Q:Value→Shared→Prop) (E:Value→Shared→Prop),dZ B.toBs σ→kE K.C Internal.glb e β σ.ρ k=some z→
 (∀σ' v x,cV B.toBs (aJ e) σ σ'→Vl B.toBs σ' v x→k x σ'.ρ=some z→Q v σ'.s)→wpAny K.M K.A (eval pe B.env) Q E σ.s
def gW (e:E)(pe:Expr):Prop:=∀(B:cU K ns Γ) (σ:Pt) (β:Type) (k:V→Fm→Option β) (z:β) (Q:Bool→Shared→Prop) (E:Value→Shared→Prop),(∀x ρ,k x ρ=some z→∃t,x=.bool t)→dZ B.toBs σ→kE K.C Internal.glb e β σ.ρ k=some z→
 (∀σ' t,cV B.toBs (aJ e) σ σ'→k (.bool t) σ'.ρ=some z→Q t σ'.s)→wpAny K.M K.A (isTrue pe B.env (eval pe B.env)) Q E σ.s
def jY (es:List E)(pes:List Expr):Prop:=∀(B:cU K ns Γ) (σ:Pt) (β:Type) (k:List V→Fm→Option β) (z:β) (Q:List Value→Shared→Prop) (E:Value→Shared→Prop) (pos:Pos),dZ B.toBs σ→bW K.C Internal.glb es β σ.ρ k=some z→
 (∀σ' v x,cV B.toBs (aK es) σ σ'→Vls B.toBs σ' v x→x.length=es.length→k x σ'.ρ=some z→Q v σ'.s)→wpAny K.M K.A (spliced (backTo pos (starEach pes B.env))) Q E σ.s
end
section
variable {K:Ct}{ns:dL}{Γ:cZ}
theorem cU.nsg {σ:Pt}(B:cU K ns Γ)(S:dZ B.toBs σ):σ.s.heap.Ns mainGlobals K.cx.mg:=K.cx.nsg.at' fun _ e=>(S.base e).1
theorem cU.nsb {σ:Pt}(B:cU K ns Γ)(S:dZ B.toBs σ):σ.s.heap.Ns builtinsNs K.cx.mb:=K.cx.nsb.at' fun _ e=>(S.base e).1
theorem Fm.at_get {ρ:Fm}{i:Nat}(n:ρ.at i≠.un):ρ[i]? =some (ρ.at i):=by
 unfold Fm.at at n ⊢
 rw [List.getD_eq_getElem?_getD] at n ⊢
 cases e:ρ[i]? with
 |none=>rw [e] at n;exact absurd rfl n
 |some s=>rfl
theorem Fm.at_some {ρ:Fm}{i:Nat}{sl:aE}(h:ρ.at i=sl)(n:sl≠.un):ρ[i]? =some sl:=h▸Fm.at_get (h▸n)
noncomputable def gK (ns:dL)(x:Str):Bool:=ns.lookup x==some .globalImplicit && !(x==("__debug__" :Str))
theorem dE {ns:dL}{y:Str}(h:gK ns y=true):ns.lookup y=some .globalImplicit∧(y==("__debug__" :Str))=false:=by
 unfold gK at h
 rw [Bool.and_eq_true,Bool.not_eq_true'] at h
 exact ⟨eq_of_beq h.1,h.2⟩
theorem ON {pe}:bC K ns Γ .bad pe:=fun _ _ _ _ _ _ _ _ hev _=>nomatch hev
theorem GK {c p}:bC K ns Γ .none (.Constant .none c p):=fun _ _ _ _ _ _ _ S hev hp=>Constant_none (hp _ _ .none (.here S _) rfl hev)
theorem GL {b c p}:bC K ns Γ (.bool b) (.Constant (.bool b) c p):=fun _ _ _ _ _ _ _ S hev hp=>Constant_bool (hp _ _ (.bool b) (.here S _) rfl hev)
theorem OP {i c p}:bC K ns Γ (.int i) (.Constant (.int i) c p):=fun _ σ _ _ _ _ _ S hev hp=>wpAny_Constant_int (hp (σ.to σ.s.heap _) _ (.int i) (.new S _ fun _ _ g=>g) ⟨_,rfl⟩ hev)
theorem OQ {n c p}(hn:n<27):bC K ns Γ (.str n) (.Constant (.str (nm n)) c p):=fun _ σ _ _ _ _ _ S hev hp=>wpAny_Constant_str (hp (σ.to σ.s.heap _) _ (.str n) (.new S _ fun _ _ g=>g) ⟨hn,_,rfl⟩ hev)
theorem nT {i x p}(hx:Γ[i]? =some (some x)):bC K ns Γ (.var i) (.Name x p):=fun B σ β k z Q E S hev hp=>by
 replace hev:(match σ.ρ.at i with|.v y=>k y σ.ρ|_=>none)=some z:=hev
 cases e:σ.ρ.at i with
 |v y=>
  rw [e] at hev
  refine bN (S.get (Fm.at_some e nofun)) fun p oa e1 e2 k=>?_
  cases oa with
  |none=>exact k.elim fun pv q=>B.ok.evalName hx e1 q.1 (hp _ _ y (.here S _) q.2 hev)
  |some _=>exact k.2.elim
 |_=>rw [e] at hev;cases hev
theorem OR {i x p}(hx:Γ[i]? =some (some x))(hio:K.io=none∨i≠0):bC K ns Γ (.frz i) (.Name x p):=fun B σ β k z Q E S hev hp=>by
 have main:∀sl y,σ.ρ[i]? =some sl→((∃l,sl=.l l∧y=.lst l)∨∃l,sl=.d l∧y=.dct l)→k y (σ.ρ.set i (.v y))=some z→wpAny K.M K.A (eval (.Name x p) B.env) Q E σ.s:=fun sl y h1 h2 hk=>
  iY (S.freeze h1 hio h2) fun a pl e1 r S' hg hr=>
  B.ok.evalName hx e1 r (hp ⟨σ.own.set i none,σ.ρ.set i (.v y),σ.s⟩ _ y ⟨S',hg,rfl,fun e=>nomatch e⟩ hr hk)
 replace hev:(match σ.ρ.at i with|.l xs=>k (.lst xs) (σ.ρ.set i (.v (.lst xs)))|.d kvs=>k (.dct kvs) (σ.ρ.set i (.v (.dct kvs)))|_=>none)=some z:=hev
 cases e:σ.ρ.at i with
 |l l=>rw [e] at hev;exact main _ _ (Fm.at_some e nofun) (.inl ⟨l,rfl,rfl⟩) hev
 |d l=>rw [e] at hev;exact main _ _ (Fm.at_some e nofun) (.inr ⟨l,rfl,rfl⟩) hev
 |_=>rw [e] at hev;cases hev
theorem GM {i x p}(hx:jB[i]? =some x)(hg:gK ns x=true):bC K ns Γ (.glob i) (.Name x p):=fun B σ β k z Q E S hev hp=>by
 replace hev:((Internal.glb[i]?).bind fun y=>k y σ.ρ)=some z:=hev
 cases e:Internal.glb[i]? with
 |none=>rw [e] at hev;cases hev
 |some y=>
  rw [e] at hev
  refine aF (dE hg) fun h3 h4=>?_
  refine aD (K.cx.glob i x y hx e) fun pv h5 h6=>?_
  exact cY K.cx B.ok (B.glb _ h3) (B.nsg S) h5 (hp _ _ y (.here S _) (h6.mono fun _ _ e=>S.base e) hev) h4
end
theorem eA {β:Type}(i:Int)(k:Int→β):lE i k=k i:=by cases i with|ofNat n=>cases n<;>rfl|negSucc n=>cases n<;>rfl
theorem sY {b:Bool}{q p:Prop}[Decidable p](e:(b=true)=q)(h:q↔p):b=decide p:=Bool.eq_iff_iff.mpr ((iff_of_eq e).trans (h.trans decide_eq_true_iff.symm))
theorem eB (i j:Int):iW i j=decide (i=j):=by
 cases i with
 |ofNat m=>cases j with
  |ofNat n=>exact sY Nat.beq_eq ⟨congrArg Int.ofNat,Int.ofNat.inj⟩
  |negSucc n=>exact (decide_eq_false fun e=>Int.noConfusion e).symm
 |negSucc m=>cases j with
  |ofNat n=>exact (decide_eq_false fun e=>Int.noConfusion e).symm
  |negSucc n=>exact sY Nat.beq_eq ⟨congrArg Int.negSucc,Int.negSucc.inj⟩
theorem gX (i j:Int):lD i j=decide (i<j):=by
 cases i with
 |ofNat m=>cases j with
  |ofNat n=>exact sY Nat.blt_eq Int.ofNat_lt.symm
  |negSucc n=>exact (decide_eq_false (Int.not_lt.mpr (Int.le_trans (Int.le_of_lt (Int.negSucc_lt_zero n)) (Int.natCast_nonneg m)))).symm
 |negSucc m=>cases j with
  |ofNat n=>exact (decide_eq_true (Int.lt_of_lt_of_le (Int.negSucc_lt_zero m) (Int.natCast_nonneg n))).symm
  |negSucc n=>exact sY Nat.blt_eq ⟨fun h=>Int.neg_lt_neg (Int.ofNat_lt.mpr (Nat.succ_lt_succ h)),fun h=>Nat.lt_of_succ_lt_succ (Int.ofNat_lt.mp (Int.lt_of_neg_lt_neg h))⟩
theorem aA {β:Type}{c:Bool}{a:Option β}{z:β}(h:cond c a none=some z):c=true∧a=some z:=by cases c with|true=>exact ⟨rfl,h⟩|false=>cases h
theorem hV {β:Type}{c:Bool}{a:Option β}{z:β}(h:cond c none a=some z):c=false∧a=some z:=by cases c with|false=>exact ⟨rfl,h⟩|true=>cases h
theorem aO {α β:Type}{o:Option α}{f:α→Option β}{y:β}(h:o.bind f=some y):∃a,o=some a∧f a=some y:=by cases o with|some a=>exact ⟨a,rfl,h⟩|none=>cases h
section
variable {β:Type}{k:V→Option β}{z:β}{x y:V}
theorem no {P:Prop}{β:Type}{z:β}(h:none=some z):P:=nomatch h
theorem frc {β:Type}{i:Int}{k:V→Option β}{z:Option β}(h:lE i (fun z=>k (.int z))=z):k (.int i)=z:=by rw [←eA (k:=fun z=>k (.int z))];exact h
variable {M:V→V→Prop}
theorem rC (h:GE x y k=some z)(h1:∀i j,k (.int (i+j))=some z→M (.int i) (.int j))(h2:∀l m,Nat.ble (l.length+m.length) jA=true→k (.lst (l++m))=some z→M (.lst l) (.lst m))
  (h3:∀l m,Nat.ble (l.length+m.length) jA=true→k (.tup (l++m))=some z→M (.tup l) (.tup m)):M x y:=by
 cases x with
 |int i=>cases y with
  |int j=>exact h1 i j (frc h)
  |_=>exact no h
 |lst l=>cases y with
  |lst m=>exact h2 l m (aA h).1 (aA h).2
  |_=>exact no h
 |tup l=>cases y with
  |tup m=>exact h3 l m (aA h).1 (aA h).2
  |_=>exact no h
 |_=>exact no h
theorem rD (h:GF x y k=some z)(h1:∀i j,k (.int (i - j))=some z→M (.int i) (.int j))(h2:∀i j,k (.int (b2i i - b2i j))=some z→M (.bool i) (.bool j)):M x y:=by
 cases x with
 |int i=>cases y with
  |int j=>exact h1 i j (frc h)
  |_=>exact no h
 |bool i=>cases y with
  |bool j=>exact h2 i j (by cases i<;>cases j<;>exact h)
  |_=>exact no h
 |_=>exact no h
theorem rE (h:GG x y k=some z)(h1:∀i j,Nat.blt i.natAbs 18446744073709551616=true→k (.int (i*j))=some z→M (.int i) (.int j))(h2:∀a j,j<1000→ -1000<j→k (.lst (List.replicate j.toNat a))=some z→M (.lst [a]) (.int j)):M x y:=by
 cases x with
 |int i=>cases y with
  |int j=>exact h1 i j (aA h).1 (frc (aA h).2)
  |_=>exact no h
 |lst l=>cases y with
  |int j=>cases l with
   |nil=>exact no h
   |cons a r=>cases r with
    |nil=>exact h2 a j (of_decide_eq_true ((gX _ _).symm.trans (aA h).1)) (of_decide_eq_true ((gX _ _).symm.trans (aA (aA h).2).1)) (aA (aA h).2).2
    |cons _ _=>exact no h
  |_=>exact no h
 |_=>exact no h
theorem nU {f:Int→Int→Option β}(h:(match (generalizing:=false) x with|.int i=>(match (generalizing:=false) y with|.int j=>f i j|_=>none)|_=>none)=some z)(h1:∀i j,f i j=some z→M (.int i) (.int j)):M x y:=by
 cases x with
 |int i=>cases y with
  |int j=>exact h1 i j h
  |_=>exact no h
 |_=>exact no h
theorem oZ (h:AE x y k=some z)(h1:∀i j,j≠0→Nat.blt j.natAbs 18446744073709551616=true→k (.int (i.fdiv j))=some z→M (.int i) (.int j)):M x y:=
 nU h fun i j h=>h1 i j (of_decide_eq_false ((eB _ _).symm.trans (hV h).1)) (aA (hV h).2).1 (frc (aA (hV h).2).2)
theorem rF (h:VV x y k=some z)(h1:∀i j,j≠0→k (.int (i.fmod j))=some z→M (.int i) (.int j)):M x y:=
 nU h fun i j h=>h1 i j (of_decide_eq_false ((eB _ _).symm.trans (hV h).1)) (frc (hV h).2)
theorem rH (h:aa9 x y k=some z)(h1:∀i n,n≤1000000→i.natAbs<2^64→k (.int (i^n))=some z→M (.int i) (.int (.ofNat n))):M x y:=
 nU h fun i j h=>by
  cases j with
  |ofNat n=>exact h1 i n (Nat.le_of_ble_eq_true (aA h).1) (Nat.blt_eq.mp (aA (aA h).2).1) (frc (aA (aA h).2).2)
  |negSucc _=>exact no h
theorem dC {k:Bool→Option β}(h:qO x y k=some z)(h1:∀i j,k (decide (i<j))=some z→M (.int i) (.int j)):M x y:=
 nU h fun i j h=>h1 i j (gX i j▸h)
theorem dU {k:Bool→Option β}{M:V→Prop}(h:dG x k=some z)(h1:∀t,k t=some z→M (.bool t)):M x:=by
 cases x with
 |bool t=>exact h1 t h
 |_=>exact no h
end
theorem OS {f:V→V→Option Bool}{l:List V}(hf:∀x∈l,∀y t,f x y=some t→(t=true↔x=y)):∀m t,OL f l m=some t→(t=true↔l=m):=by
 induction l with
 |nil=>
  intro m t h
  cases m with
  |nil=>cases h;exact ⟨fun _=>rfl,fun _=>rfl⟩
  |cons _ _=>cases h;exact ⟨fun e=>(nomatch e),fun e=>(nomatch e)⟩
 |cons x l ih=>
  intro m t h
  cases m with
  |nil=>cases h;exact ⟨fun e=>(nomatch e),fun e=>(nomatch e)⟩
  |cons y m=>
   refine aD (aO h) fun u h1 h2=>?_
   have q:=hf x (.head _) y u h1
   cases u with
   |true=>rw [ih (fun x hx=>hf x (.tail _ hx)) m t h2,List.cons.injEq,and_iff_right (q.mp rfl)]
   |false=>cases h2;rw [List.cons.injEq];exact ⟨fun e=>(nomatch e),fun e=>q.mpr e.1⟩
theorem ff {P:Prop}(h:¬P){t:Bool}(e:some false=some t):t=true↔P:=by cases e;exact ⟨fun e=>(nomatch e),fun e=>(h e).elim⟩
theorem AI:∀n x y t,iH n x y=some t→(t=true↔x=y):=by
 have ii:∀{i j:Int} {t},some (iW i j)=some t→(t=true↔V.int i=.int j):=fun {i j t} h=>by cases h;rw [eB,decide_eq_true_iff,V.int.injEq]
 have ss:∀{i j:Nat} {t},some (Nat.beq i j)=some t→(t=true↔V.str i=.str j):=fun {i j t} h=>by cases h;rw [Nat.beq_eq,V.str.injEq]
 intro n
 induction n with
 |zero=>
  intro x y t h
  cases x with
  |int i=>cases y with
   |int j=>exact ii h
   |str _=>exact ff nofun h
   |tup _=>exact ff nofun h
   |_=>exact no h
  |str i=>cases y with
   |str j=>exact ss h
   |int _=>exact ff nofun h
   |tup _=>exact ff nofun h
   |_=>exact no h
  |_=>exact no h
 |succ n ih=>
  intro x y t h
  cases x with
  |int i=>cases y with
   |int j=>exact ii h
   |str _=>exact ff nofun h
   |tup _=>exact ff nofun h
   |_=>exact no h
  |str i=>cases y with
   |str j=>exact ss h
   |int _=>exact ff nofun h
   |tup _=>exact ff nofun h
   |_=>exact no h
  |tup l=>cases y with
   |tup m=>rw [V.tup.injEq];exact OS (fun x _=>ih x) m t h
   |int _=>exact ff nofun h
   |str _=>exact ff nofun h
   |_=>exact no h
  |_=>exact no h
theorem sZ {n m:Nat}(h:Nat.blt m 27=true):gI n (.str m)=true:=by cases n<;>exact h
theorem pA {n:Nat}{i:Int}:gI n (.int i)=true:=by cases n<;>rfl
theorem lH {β:Type}{k:Bool→Option β}{z:β}{x y:V}{M:V→V→Prop}(h:qN x y k=some z)(h1:∀i j,k (i==j)=some z→M (.bool i) (.bool j))(h2:∀x y t,gI 20 x=true→gI 20 y=true→(t=true↔x=y)→k t=some z→M x y):M x y:=by
 have ne:∀{x y:V},(x=y→False)→(false=true↔x=y):=fun h=>⟨fun e=>(nomatch e),fun e=>(h e).elim⟩
 cases x with
 |str m=>
  cases y with
  |str n=>exact h2 _ _ _ (sZ (aA h).1) (sZ (aA (aA h).2).1) (by rw [Nat.beq_eq,V.str.injEq]) (aA (aA h).2).2
  |int n=>
   have h:cond (Nat.blt m 27) (k false) none=some z:=h
   exact h2 _ _ false (sZ (aA h).1) pA (ne nofun) (aA h).2
  |tup l=>
   have h:cond (gI 20 (.tup l)) (cond (Nat.blt m 27) (k false) none) none=some z:=h
   exact h2 _ _ false (sZ (aA (aA h).2).1) (aA h).1 (ne nofun) (aA (aA h).2).2
  |_=>exact no h
 |int i=>
  cases y with
  |int j=>exact h2 _ _ _ pA pA (by rw [eB,decide_eq_true_iff,V.int.injEq]) h
  |str n=>
   have h:cond (gI 20 (.str n)) (k false) none=some z:=h
   exact h2 _ _ false pA (aA h).1 (ne nofun) (aA h).2
  |tup l=>
   have h:cond (gI 20 (.tup l)) (k false) none=some z:=h
   exact h2 _ _ false pA (aA h).1 (ne nofun) (aA h).2
  |_=>exact no h
 |bool i=>
  cases y with
  |bool j=>exact h1 i j h
  |_=>exact no h
 |tup l=>
  have h:cond (gI 20 (.tup l)) (cond (gI 20 y) ((iH 20 (.tup l) y).bind k) none) none=some z:=h
  refine aD (aO (aA (aA h).2).2) fun t h3 h4=>?_
  exact h2 _ _ t (aA h).1 (aA (aA h).2).1 (AI _ _ _ _ h3) h4
 |_=>exact no h
theorem eX {n:Nat}(h:Nat.ble n jA=true):n≤sizeLine:=Nat.le_trans (Nat.le_of_ble_eq_true h) (by decide+kernel)
noncomputable def VY:BO→Operator
 |.add=>.Add|.sub=>.Sub|.mul=>.Mult|.fdiv=>.FloorDiv|.mod=>.Mod|.pow=>.Pow
noncomputable def qR:CO→CmpOp
 |.eq=>.Eq|.ne=>.NotEq|.lt=>.Lt|.le=>.LtE|.gt=>.Gt|.ge=>.GtE
section
variable {prog:Program}{w:World}{A:Around}{E:Value→Shared→Prop}{s:Shared}{g:Gh}{Q:Value→Shared→Prop}{x y:V}{u v:Value}{β:Type}{k:V→Option β}{z:β}
theorem tA {a b:Int}(h:b.natAbs<2^64):Builtin.divisionGoesByPylong a b=false:=by
 refine PyProof.noPylong_of_log2 ?_
 by_cases h0:b.natAbs=0
 ·refine (Eq.symm h0)▸?_;decide+kernel
 ·have:=(Nat.log2_lt h0).mpr h
  lia
theorem dD {a:Addr}{vs:List Value}{n:Nat}(h:s.heap.get? a=some (bV vs n)):s.heap.IsList a vs.toArray:=⟨_,h,rfl,n,rfl⟩
theorem OT {l b:Addr}{vs ws:List Value}{n m:Nat}(hl:s.heap.get? l=some (bV vs n))(hb:s.heap.get? b=some (bV ws m))(hz:vs.length+ws.length≤sizeLine)
  (h:Q (.ref s.heap.objs.size) {s with heap:=s.heap.push (bV (vs++ws) 0)}):wpAny (model prog w) A (binaryOp .Add (.ref l) (.ref b)) Q E s:=by
 refine concat_meets ⟨_,hl,rfl⟩ ⟨_,hb,rfl⟩ noFill_list_add seq_list_add PySem.F.slot_list_add PySem.F.entry_list_add (PySem.F.args_list_add_2 _ _) (list_addW l b vs.toArray ws.toArray n m none none #[] #[] (by simpa using hz)) ⟨hl,hb,?_⟩
 refine (Eq.symm (show vs.toArray++ws.toArray=(vs++ws).toArray by simp))▸?_
 exact h
theorem OU {t b:Addr}{vs ws:List Value}(ht:s.heap.get? t=some {cls:=.type "tuple",data:=.seq vs.toArray}) (hb:s.heap.get? b=some {cls:=.type "tuple",data:=.seq ws.toArray}) (hz:vs.length+ws.length≤sizeLine)
  (h0:vs=[]→Q (.ref b) s) (h1:ws=[]→Q (.ref t) s)
  (h2:Q (.ref s.heap.objs.size) {s with heap:=s.heap.push {cls:=.type "tuple",data:=.seq (vs++ws).toArray}}):wpAny (model prog w) A (binaryOp .Add (.ref t) (.ref b)) Q E s:=by
 by_cases hv:vs=[]
 ·exact concat_meets ⟨_,ht,rfl⟩ ⟨_,hb,rfl⟩ noFill_tuple_add seq_tuple_add PySem.F.slot_tuple_add PySem.F.entry_tuple_add (PySem.F.args_tuple_add_2 _ _)
   (tuple_addW0 t b vs.toArray ws.toArray 0 0 none none #[] #[] (by simp [hv])) ⟨ht,hb,h0 hv⟩
 ·by_cases hw:ws=[]
  ·exact concat_meets ⟨_,ht,rfl⟩ ⟨_,hb,rfl⟩ noFill_tuple_add seq_tuple_add PySem.F.slot_tuple_add PySem.F.entry_tuple_add (PySem.F.args_tuple_add_2 _ _)
    (tuple_addW1 t b vs.toArray ws.toArray 0 0 none none #[] #[] (by simpa using hv) (by simp [hw])) ⟨ht,hb,h1 hw⟩
  ·refine concat_meets ⟨_,ht,rfl⟩ ⟨_,hb,rfl⟩ noFill_tuple_add seq_tuple_add PySem.F.slot_tuple_add PySem.F.entry_tuple_add (PySem.F.args_tuple_add_2 _ _)
    (tuple_addW2 t b vs.toArray ws.toArray 0 0 none none #[] #[] (by simpa using hv) (by simpa using hw) (by simpa using hz)) ⟨ht,hb,?_⟩
   refine (Eq.symm (show vs.toArray++ws.toArray=(vs++ws).toArray by simp))▸?_
   exact h2
theorem rI (a:Value):∀(n:Nat) (acc:Array Value),List.foldl (fun x1 x2=>x1++x2) acc (List.replicate n #[a])=(acc.toList++List.replicate n a).toArray
 |0,acc=>by simp
 |n+1,acc=>by
  rw [List.replicate_succ,List.foldl_cons,rI a n,List.replicate_succ]
  simp
theorem OV {l:Addr}{a:Value}{k:Nat}{x:Int}{t:Tok}(hl:s.heap.get? l=some (bV [a] k))(hx:x≤1000)(hlo: -1000≤x)
  (h:Q (.ref s.heap.objs.size) {s with heap:=s.heap.push (bV (List.replicate x.toNat a) 0)}):wpAny (model prog w) A (binaryOp .Mult (.ref l) (.int x t)) Q E s:=by
 have h1:(#[a]:Array Value).size=1:=rfl
 have h2:x.toNat≤1000:=Int.toNat_le.mpr hx
 have e:List.foldl (fun x1 x2=>x1++x2) #[] (List.replicate (if ([a].toArray).isEmpty=true then 0 else x.toNat) [a].toArray)=(List.replicate x.toNat a).toArray:=by
  rw [if_neg (by simp)]
  simpa using rI a x.toNat #[]
 refine wpAny_binaryOp_repeat_ref (T:= "list") (U:= "int") (by decide) ⟨_,hl,rfl⟩ (fun s'=>typeIs_int s' x t) noFill_list_mul F.fills_int_mul F.slot_int_rmul repeat_list F.slot_int_index.lookup
  (call_meets F.slot_int_rmul (typeIs_int s x t) F.entry_int_rmul (F.args_int_rmul_2 _ _) (int___rmul___int_list x t l #[a] k)
   ⟨hl,rfl,⟨_,hl,rfl⟩,call_meets F.slot_list_mul ⟨_,hl,rfl⟩ F.entry_list_mul (F.args_list_mul_2 _ _)
    (AutoListH.list___mul___list_int_3 l #[a] k x t (by simp [Builtin.List.listFitsIndex];lia) (by refine (Eq.symm h1)▸?_;lia) (by refine (Eq.symm h1)▸?_;simp [Builtin.List.listTooLong,sizeLine];lia))
    ⟨hl,by refine (Eq.symm e)▸?_;exact h⟩⟩)
theorem VZ {o:BO}(hg:lF g s)(hx:Rp w.params g u x)(hy:Rp w.params g v y)(hz:cL o x y k=some z)(h:qJ w.params g s k z Q):wpAny (model prog w) A (binaryOp (VY o) u v) Q E s:=by
 revert hx hy
 cases o with
 |add=>
  refine rC (M:=fun x y=>Rp w.params g u x→Rp w.params g v y→_) hz (fun i j q=>?_) (fun l m hb q=>?_) fun l m hb q=>?_
  ·rintro ⟨_,rfl⟩ ⟨_,rfl⟩;exact add_int (h.at q ⟨_,rfl⟩)
  ·rintro ⟨a,vs,n,rfl,g1,r1⟩ ⟨b,ws,n',rfl,g2,r2⟩
   exact OT (hg _ _ g1) (hg _ _ g2) (by refine (Eq.symm (bJ.length r1))▸?_;refine (Eq.symm (bJ.length r2))▸?_;exact eX hb) (h _ _ _ _ bB q (gE _ _ _ ⟨rfl,.inr ⟨Heap.get?_push_size _ rfl,aV⟩,bJ.mono (bJ.append r2 r1) nK⟩))
  ·rintro ⟨a,vs,rfl,g1,r1⟩ ⟨b,ws,rfl,g2,r2⟩
   refine OU (hg _ _ g1) (hg _ _ g2) (by refine (Eq.symm (bJ.length r1))▸?_;refine (Eq.symm (bJ.length r2))▸?_;exact eX hb) (fun e=>?_) (fun e=>?_) (h _ _ _ _ bB q (bM _ _ ⟨rfl,.inr ⟨Heap.get?_push_size _ rfl,aV⟩,bJ.mono (bJ.append r2 r1) nK⟩))
   ·subst e
    rw [List.eq_nil_of_length_eq_zero (bJ.length r1).symm] at q
    exact h.at0 q (bM _ _ ⟨rfl,g2,r2⟩)
   ·subst e
    rw [List.eq_nil_of_length_eq_zero (bJ.length r2).symm,List.append_nil] at q
    exact h.at0 q (bM _ _ ⟨rfl,g1,r1⟩)
 |sub=>
  refine rD (M:=fun x y=>Rp w.params g u x→Rp w.params g v y→_) hz (fun i j q=>?_) fun i j q=>?_
  ·rintro ⟨_,rfl⟩ ⟨_,rfl⟩;exact sub_int (h.at q ⟨_,rfl⟩)
  ·rintro rfl rfl;exact sub_bool (h.at q ⟨_,rfl⟩)
 |mul=>
  refine rE (M:=fun x y=>Rp w.params g u x→Rp w.params g v y→_) hz (fun i j hb q=>?_) fun a j h1 h2 q=>?_
  ·rintro ⟨_,rfl⟩ ⟨_,rfl⟩
   have:=Nat.blt_eq.mp hb
   exact mul_int (h.at q ⟨_,rfl⟩) (.of_left (intBits_le_64 (Int.lt_of_neg_lt_neg (Int.lt_of_le_of_lt (Int.le_trans Int.le_natAbs (Int.le_of_eq (congrArg _ (Int.natAbs_neg i)))) (Int.ofNat_lt.mpr this))) (Int.lt_of_le_of_lt Int.le_natAbs (Int.ofNat_lt.mpr this))))
  ·rintro ⟨b,vs,n,rfl,g1,v,t,rfl,r1,rfl⟩ ⟨_,rfl⟩
   exact OV (hg _ _ g1) (Int.le_of_lt h1) (Int.le_of_lt h2) (h _ _ _ _ bB q (gE _ _ _ ⟨rfl,.inr ⟨Heap.get?_push_size _ rfl,aV⟩,bJ.mono (bJ.replicate r1 _) nK⟩))
 |fdiv=>
  refine oZ (M:=fun x y=>Rp w.params g u x→Rp w.params g v y→_) hz fun i j h1 h2 q=>?_
  rintro ⟨_,rfl⟩ ⟨_,rfl⟩
  exact floordiv_int h1 (h.at q ⟨_,rfl⟩) (.inl (tA (Nat.blt_eq.mp h2)))
 |mod=>
  refine rF (M:=fun x y=>Rp w.params g u x→Rp w.params g v y→_) hz fun i j h1 q=>?_
  rintro ⟨_,rfl⟩ ⟨_,rfl⟩
  exact mod_int h1 (h.at q ⟨_,rfl⟩)
 |pow=>
  refine rH (M:=fun x y=>Rp w.params g u x→Rp w.params g v y→_) hz fun i n h1 h2 q=>?_
  rintro ⟨_,rfl⟩ ⟨_,rfl⟩
  exact pow_int_small (Int.natCast_nonneg n) (Int.ofNat_le.mpr h1) h2 (h.at q ⟨_,rfl⟩)
theorem tB {b:Bool}{Q:Bool→Shared→Prop}(hx:Rp w.params g u (.bool b))(h:Q b s):wpAny (model prog w) A (truthy u) Q E s:=by cases hx;exact wpAny_truthy_bool h
theorem lI (hg:lF g s){x:V}{v:Value}(h:gI 20 x=true)(r:Rp w.params g v x):∃as,Reads s.heap v x.py as:=oR 20 x h v (r.mono hg)
theorem GN {o:CO}(hg:lF g s)(hu:A.units+64<cLine)(hx:Rp w.params g u x)(hy:Rp w.params g v y)(hz:bK o x y k=some z)(h:qJ w.params g s k z Q):wpAny (model prog w) A (compareOp (qR o) u v) Q E s:=by
 have eqv:∀{x y t},gI 20 x=true→gI 20 y=true→(t=true↔x=y)→PyData.eqv x.py y.py=t:=fun h1 h2 ht=>Bool.eq_iff_iff.mpr ((GD 20 _ h1 20 _ h2).trans ht.symm)
 have nl:∀{i j:Int},(!decide (i<j))=decide (j≤i):=fun {i j}=>by rw [←decide_not];exact decide_eq_decide.mpr Int.not_lt
 revert hx hy
 cases o with
 |eq=>
  refine lH (M:=fun x y=>Rp w.params g u x→Rp w.params g v y→_) (show (qN x y fun t=>k (.bool t))=some z from hz) (fun i j q=>?_) fun x y t h1 h2 ht q hx hy=>?_
  ·rintro rfl rfl;exact eq_bool (h.at0 q rfl)
  ·exact eq_dataH (lI hg h1 hx).choose_spec (lI hg h2 hy).choose_spec (fS (by decide) h1) (fS (by decide) h2) hu (by refine (Eq.symm (eqv h1 h2 ht))▸?_;exact h.at0 q rfl)
 |ne=>
  refine lH (M:=fun x y=>Rp w.params g u x→Rp w.params g v y→_) (show (qN x y fun t=>k (.bool (not t)))=some z from hz) (fun i j q=>?_) fun x y t h1 h2 ht q hx hy=>?_
  ·rintro rfl rfl;exact ne_bool (h.at0 q rfl)
  ·exact ne_dataH (lI hg h1 hx).choose_spec (lI hg h2 hy).choose_spec (fS (by decide) h1) (fS (by decide) h2) hu (by refine (Eq.symm (eqv h1 h2 ht))▸?_;exact h.at0 q rfl)
 |lt=>exact dC (M:=fun x y=>Rp w.params g u x→Rp w.params g v y→_) (show (qO x y fun t=>k (.bool t))=some z from hz) fun i j q=>by rintro ⟨_,rfl⟩ ⟨_,rfl⟩;exact lt_int (h.at0 q rfl)
 |gt=>exact fun hx hy=>dC (M:=fun y x=>Rp w.params g u x→Rp w.params g v y→_) (show (qO y x fun t=>k (.bool t))=some z from hz) (fun i j q=>by rintro ⟨_,rfl⟩ ⟨_,rfl⟩;exact gt_int (h.at0 q rfl)) hx hy
 |le=>exact fun hx hy=>dC (M:=fun y x=>Rp w.params g u x→Rp w.params g v y→_) (show (qO y x fun t=>k (.bool (not t)))=some z from hz) (fun i j q=>by rintro ⟨_,rfl⟩ ⟨_,rfl⟩;rw [nl] at q;exact le_int (h.at0 q rfl)) hx hy
 |ge=>exact dC (M:=fun x y=>Rp w.params g u x→Rp w.params g v y→_) (show (qO x y fun t=>k (.bool (not t)))=some z from hz) fun i j q=>by rintro ⟨_,rfl⟩ ⟨_,rfl⟩;rw [nl] at q;exact ge_int (h.at0 q rfl)
end
structure PX (pe:Expr):Prop where
 st:∀rest env,starEach (pe::rest) env=(false,eval pe env)::starEach rest env
 sb:∀o i,subscripted pe false o i=operate [o,i] (getItem o i)
 se:∀env x,foldedSetIterable pe env x=pure x
theorem bH {pe:Expr}(h:PX pe)(rest:List Expr)(env:Env):starEach (pe::rest) env=(false,eval pe env)::starEach rest env:=h.st rest env
theorem hW {pe:Expr}(h:PX pe)(o i:Value):subscripted pe false o i=operate [o,i] (getItem o i):=h.sb o i
theorem rJ {pe:Expr}(h:PX pe)(env:Env)(x:Value):foldedSetIterable pe env x=pure x:=h.se env x
theorem jR {f a k p}:PX (.Call f a k p):=⟨fun _ _=>rfl,fun _ _=>rfl,fun _ _=>rfl⟩
theorem jF {c k p}:PX (.Constant c k p):=⟨fun _ _=>rfl,fun _ _=>rfl,fun _ _=>rfl⟩
theorem AJ {l p}:PX (.List l p):=⟨fun _ _=>rfl,fun _ _=>rfl,fun _ _=>rfl⟩
theorem lJ:∀(l:List V) (n:Nat),CV l n=l[n]? :=fun l=>by
 induction l with
 |nil=>intro n;rfl
 |cons x l ih=>
  intro n
  cases n with
  |zero=>rfl
  |succ n=>exact ih n
section
variable {prog:Program}{w:World}{A:Around}{E:Value→Shared→Prop}{s:Shared}{g:Gh}{Q:Value→Shared→Prop}{x y:V}{u v:Value}{β:Type}{k:V→Option β}{z:β}
theorem vE {i:Int}{n:Nat}(h0:0≤i)(h1:i<n):seqIndex? i n=some i.toNat:=by
 unfold seqIndex?
 have e:¬(i<0):=Int.not_lt.mpr h0
 simp only [if_neg e]
 rw [if_pos]
 simp only [Bool.and_eq_true,decide_eq_true_eq]
 exact ⟨h0,h1⟩
theorem OW {l:List V}{a:Addr}{vs:List Value}{i:Nat}{t:Tok}{y:V}{slice value:Expr}(hsl:PX slice)(ho:s.heap.get? a=some (vA vs))(hr:bJ w.params g vs l)(hi:i≤1000)(hy:l[i]? =some y)(hk:k y=some z)(h:qJ w.params g s k z Q):
  wpAny (model prog w) A (subscriptTail value slice (.ref a) (.int i t)) Q E s:=by
 refine aD (bJ.get hr hy) fun v hv hrv=>?_
 have hlt:i<vs.length:=(List.getElem?_eq_some_iff.mp hv).1
 exact tail_any ⟨_,ho,rfl⟩ slot_tuple_getitem.lookup (PyProof.Rows.getItem_tuple (j:=i) ⟨_,ho,rfl,_,rfl⟩ (by lia) (by lia) (vE (by lia) (by simp;lia)) (by simpa using hv) (h.at0 hk hrv)) (hW hsl _ _)
theorem AK {l:List V}{a:Addr}{vs:List Value}{n i:Nat}{t:Tok}{y:V}{slice value:Expr}(hsl:PX slice)(ho:s.heap.get? a=some (bV vs n))(hr:bJ w.params g vs l)(hi:i≤1000)(hy:l[i]? =some y)(hk:k y=some z)(h:qJ w.params g s k z Q):
  wpAny (model prog w) A (subscriptTail value slice (.ref a) (.int i t)) Q E s:=by
 refine aD (bJ.get hr hy) fun v hv hrv=>?_
 exact tail_any ⟨_,ho,rfl⟩ slot_list_getitem.lookup (wpAny_getItem_list ⟨_,ho,rfl,_,rfl⟩ (by lia) (by lia) (by simpa using hv) (h.at0 hk hrv)) (hW hsl _ _)
theorem OX {l:List V}{a:Addr}{vs:List Value}{n i:Nat}{t:Tok}{y:V}{slice value:Expr}(hsl:PX slice)(ho:s.heap.get? a=some (bV vs n))(hr:bJ w.params g vs l)(hl:l.length≤1000)(hi:i<l.length)(hy:l[l.length - (i+1)]? =some y)(hk:k y=some z)(h:qJ w.params g s k z Q):
  wpAny (model prog w) A (subscriptTail value slice (.ref a) (.int (.negSucc i) t)) Q E s:=by
 refine aD (bJ.get hr hy) fun v hv hrv=>?_
 have hlen:=bJ.length hr
 have e:(Int.negSucc i+(vs.toArray.size:Int)).toNat=l.length - (i+1):=by refine (Eq.symm List.size_toArray)▸?_;refine (Eq.symm hlen)▸?_;refine (Int.add_comm _ _).symm▸?_;exact Int.toNat_sub l.length (i+1)
 exact tail_any ⟨_,ho,rfl⟩ slot_list_getitem.lookup (wpAny_getItem_list_neg ⟨_,ho,rfl,_,rfl⟩ (Int.negSucc_lt_zero i) (by refine (Eq.symm List.size_toArray)▸?_;refine (Eq.symm hlen)▸?_;lia) (by lia) (by refine (Eq.symm e)▸?_;simpa using hv) (h.at0 hk hrv)) (hW hsl _ _)
theorem AL {l:List V}{a:Addr}{vs:List Value}{n:Nat}{i:Int}{t:Tok}{slice value:Expr}(hsl:PX slice)(ho:s.heap.get? a=some (bV vs n))(hr:bJ w.params g vs l)(hz:OJ l i k=some z)(h:qJ w.params g s k z Q):
  wpAny (model prog w) A (subscriptTail value slice (.ref a) (.int i t)) Q E s:=by
 cases i with
 |ofNat n=>
  refine aF (aA hz) fun h1 h2=>?_
  refine aD (aO h2) fun y h3 h4=>?_
  exact AK hsl ho hr (Nat.le_of_ble_eq_true h1) ((lJ _ _).symm.trans h3) h4 h
 |negSucc n=>
  refine aF (aA hz) fun h1 h2=>?_
  refine aF (aA h2) fun h3 h4=>?_
  refine aD (aO h4) fun y h5 h6=>?_
  exact OX hsl ho hr (Nat.le_of_ble_eq_true h1) (Nat.blt_eq.mp h3) ((lJ _ _).symm.trans h5) h6 h
theorem GO {n:Nat}{t:Tok}{slice value:Expr}(hsl:PX slice)(hg:lF g s)(hx:Rp w.params g u x)(hz:vD x n k=some z)(h:qJ w.params g s k z Q):wpAny (model prog w) A (subscriptTail value slice u (.int n t)) Q E s:=by
 cases x with
 |tup l=>
  refine aF (aA hz) fun h1 h2=>?_
  refine aD (aO h2) fun y h3 h4=>?_
  refine bN hx fun a vs aqG g1 r1=>?_;subst aqG
  exact OW hsl (hg _ _ g1) r1 (Nat.le_of_ble_eq_true h1) ((lJ _ _).symm.trans h3) h4 h
 |lst l=>
  refine aF (aA hz) fun h1 h2=>?_
  refine aD (aO h2) fun y h3 h4=>?_
  refine dA hx fun a vs m aqH g1 r1=>?_;subst aqH
  exact AK hsl (hg _ _ g1) r1 (Nat.le_of_ble_eq_true h1) ((lJ _ _).symm.trans h3) h4 h
 |_=>exact no hz
theorem abA (hz:k (.bool (match x with|.none=>true|_=>false))=some z)(hx:Rp w.params g u x)(h:qJ w.params g s k z Q):wpAny (model prog w) A (compareOp .Is u .none) Q E s:=by
 refine is_none_gen ?_
 cases x with
 |none=>cases hx;exact h.at0 hz rfl
 |bool _=>cases hx;exact h.at0 hz rfl
 |int _=>refine aR hx fun _ aqI=>?_;subst aqI;exact h.at0 hz rfl
 |str _=>refine aF hx fun _ aqJ=>?_;obtain ⟨_,rfl⟩:=aqJ;exact h.at0 hz rfl
 |tup _=>refine cF hx fun _ _ aqK _=>?_;subst aqK;exact h.at0 hz rfl
 |lst _=>refine iZ hx fun _ _ _ aqL _=>?_;subst aqL;exact h.at0 hz rfl
 |dct _=>refine iZ hx fun _ _ _ aqM _=>?_;subst aqM;exact h.at0 hz rfl
theorem kK:∀(l:List Nat) {vs:List Value} (_:bJ w.params g vs (l.map .str)),StrsAre vs (l.map nm)
 |[]=>fun h=>by cases h;exact .nil
 |n::l=>fun h=>bN h fun _ _ e f b=>f.2.elim fun _ f=>by subst e f;exact .cons _ _ (kK l b)
theorem GP (l:List Nat)(n:Nat)(hn:n<27)(hl:∀m∈l,m<27):(l.map nm).any (· ==nm n)=l.contains n:=by
 rw [Bool.eq_iff_iff,List.any_eq_true,List.contains_iff_mem]
 constructor
 ·rintro ⟨x,hx,e⟩
  refine aD (List.mem_map.mp hx) fun m hm aqN=>?_;subst aqN
  exact xI (hl m hm) hn (eq_of_beq e)▸hm
 ·intro h
  exact ⟨nm n,List.mem_map_of_mem h,beq_self_eq_true _⟩
noncomputable def GQ (p:Bool):CmpOp:=cond p .In .NotIn
theorem abB {p:Bool}{l:List Nat}{n:Nat}{a:Addr}{vs:List Value}(hl:∀m∈l,m<27)(hx:Rp w.params g u (.str n))(ha:s.heap.get? a=some (vA vs))(r1:bJ w.params g vs (l.map .str))(hz:k (.bool (cond (l.contains n) p (not p)))=some z)(h:qJ w.params g s k z Q):
  wpAny (model prog w) A (compareOp (GQ p) u (.ref a)) Q E s:=by
 obtain ⟨hn,t,rfl⟩:=hx
 have ht:IsTup s.heap a vs.toArray:=⟨_,ha,rfl,0,rfl⟩
 cases p
 ·refine notin_tuple_strs ht (kK l r1) ?_
  refine (Eq.symm (GP l n hn hl))▸?_
  cases hc:l.contains n<;>rw [hc] at hz<;>exact h.at0 hz rfl
 ·refine in_tuple_strs ht (kK l r1) ?_
  refine (Eq.symm (GP l n hn hl))▸?_
  cases hc:l.contains n<;>rw [hc] at hz<;>exact h.at0 hz rfl
theorem GR (l u st:Option Expr)(p:Pos)(o i:Value)(h:st=none):subscripted (.Slice l u st p) false o i=operate [i,o] (getItem o i):=by subst h;rfl
theorem vF {f:List V→Nat→List V}{M:V→V→Prop}(h:((match (generalizing:=false) x with|.lst l=>(match (generalizing:=false) y with|.int i=>if 0≤i∧l.length≤jA then some (V.lst (f l i.toNat)) else none|_=>none)|_=>none:Option V).bind k)=some z)(h1:∀(l:List V) (i:Nat),l.length≤jA→k (.lst (f l i))=some z→M (.lst l) (.int i)):M x y:=by
 cases x with
 |lst l=>cases y with
  |int i=>
   replace h:(if 0≤i∧l.length≤jA then some (V.lst (f l i.toNat)) else none).bind k=some z:=h
   split at h
   ·rename_i hb
    refine aR (Int.eq_ofNat_of_zero_le hb.1) fun n aqO=>?_;subst aqO
    exact h1 l n hb.2 h
   ·cases h
  |_=>exact no h
 |_=>exact no h
theorem WA {sl a:Addr}{t:Tok}{j:Nat}{l:List V}{vs:List Value}{m:Nat}(hs:s.heap.IsSliceOf sl (.int j t) .none .none)(ha:s.heap.get? a=some (bV vs m))(r1:bJ w.params g vs l)(hl:l.length≤jA)(hz:k (.lst (l.drop j))=some z)(h:qJ w.params g s k z Q):
  wpAny (model prog w) A (getItem (.ref a) (.ref sl)) Q E s:=by
 refine wpAny_getItem_list_slice (dD ha) hs (.int j t) .none .none (by simp) ?_ (by rw [List.size_toArray,bJ.length r1];exact eX (Nat.ble_eq.mpr hl))
 rw [slicePick_from']
 exact h _ _ _ _ bB hz (gE _ (vs.drop j) _ ⟨rfl,.inr ⟨by simpa using Heap.get?_push_size _ rfl,aV⟩,bJ.mono (bJ.drop r1 j) nK⟩)
theorem WB {sl a:Addr}{t:Tok}{j:Nat}{l:List V}{vs:List Value}{m:Nat}(hs:s.heap.IsSliceOf sl .none (.int j t) .none)(ha:s.heap.get? a=some (bV vs m))(r1:bJ w.params g vs l)(hl:l.length≤jA)(hz:k (.lst (l.take j))=some z)(h:qJ w.params g s k z Q):
  wpAny (model prog w) A (getItem (.ref a) (.ref sl)) Q E s:=by
 refine wpAny_getItem_list_slice (dD ha) hs .none (.int j t) .none (by simp) ?_ (by rw [List.size_toArray,bJ.length r1];exact eX (Nat.ble_eq.mpr hl))
 rw [slicePick_upto']
 exact h _ _ _ _ bB hz (gE _ (vs.take j) _ ⟨rfl,.inr ⟨by simpa using Heap.get?_push_size _ rfl,aV⟩,bJ.mono (bJ.take r1 j) nK⟩)
theorem GS:∀{l:List V} {vs:List Value} {i:Int},bJ w.params g vs l→sR l=some i→∃ns,IntsAre vs ns∧ns.sum=i:=fun {l}=>by
 induction l with
 |nil=>rintro vs i rfl hs;cases hs;exact ⟨[],.nil,rfl⟩
 |cons y l ih=>
  rintro vs i ⟨v,t,rfl,r1,r2⟩ hs
  cases y with
  |int a=>
   refine aR r1 fun tk aqP=>?_;subst aqP
   replace hs:(sR l).map (a+ ·)=some i:=hs
   cases e:sR l with
   |none=>rw [e] at hs;exact no hs
   |some j=>
    rw [e] at hs
    refine aD (ih r2 e) fun ns h1 h2=>?_
    exact ⟨a::ns,.cons a tk h1,by rw [List.sum_cons,h2];exact Option.some.inj hs⟩
  |_=>exact no hs
theorem CW {vs:List Value}{l:List V}{i:Int}(hr:bJ w.params g vs l)(hs:sR l=some i):∃xs:Array (Int×Tok),vs.toArray=intItems xs∧preSum (numAt xs) xs.size=i:=by
 refine aD (GS hr hs) fun ns h1 h2=>?_
 refine aR h1.allInts.items fun xs e=>?_
 refine ⟨xs,e,?_⟩
 have hns:ns=xs.toList.map (·.1):=by rw [←h1.numsOf, ←nums_intItems, ←e]
 rw [preSum_eq,List.take_of_length_le (by simp), ←h2,hns]
noncomputable def b1N:B1→Str
 |.len=> "len" |.abs=> "abs" |.tuple=> "tuple" |.list=> "list" |.sum=> "sum"
noncomputable def b2N:B2→Str
 |.min=> "min" |.max=> "max"
noncomputable def b1T:B1→Value
 |.len=>.builtin "len" |.abs=>.builtin "abs" |.tuple=>.type "tuple" |.list=>.type "list" |.sum=>.builtin "sum"
noncomputable def b2T:B2→Value
 |.min=>.builtin "min" |.max=>.builtin "max"
theorem GT {n:Nat}(h:Nat.ble n 1000=true):(n:Int)<2^63:=by have:=Nat.le_of_ble_eq_true h;lia
theorem kL {n:Nat}(h:Nat.ble n 1000=true):n≤sizeLine:=eX (Nat.ble_eq.mpr (Nat.le_trans (Nat.le_of_ble_eq_true h) (by decide)))
theorem UD {b:B1}(hg:lF g s)(hh:A.handled=none)(hx:Rp w.params g u x)(hz:hJ b x k=some z)(h:qJ w.params g s k z Q):wpAny (model prog w) A (call (b1T b) [u]) Q E s:=by
 cases b with
 |len=>
  cases x with
  |lst l=>
   refine dA hx fun a vs n af1 g1 r1=>?_;subst af1
   refine aF (aA hz) fun h1 h2=>?_
   rw [←bJ.length r1] at h1 h2
   exact Calls.call_len_list (dD (hg _ _ g1)) (GT h1) (h.at h2 ⟨_,rfl⟩)
  |tup l=>
   refine bN hx fun a vs af2 g1 r1=>?_;subst af2
   refine aF (aA hz) fun h1 h2=>?_
   rw [←bJ.length r1] at h1 h2
   exact PyProof.Rows.len_tuple ⟨_,hg _ _ g1,rfl,0,rfl⟩ (GT h1) (h.at h2 ⟨_,rfl⟩)
  |_=>exact no hz
 |abs=>
  cases x with
  |int i=>
   refine aR hx fun _ af3=>?_;subst af3
   refine call_abs_int fun u tk=>?_
   have e:(if i<0 then -i else i)=Int.ofNat i.natAbs:=by cases i with|ofNat n=>exact if_neg (Int.not_lt.mpr (Int.natCast_nonneg n))|negSucc n=>exact if_pos (Int.negSucc_lt_zero n)
   first|exact h.at hz ⟨_,rfl⟩|(refine (Eq.symm e)▸?_;exact h.at hz ⟨_,rfl⟩)
  |_=>exact no hz
 |tuple=>
  cases x with
  |lst l=>
   refine dA hx fun a vs n af4 g1 r1=>?_;subst af4
   refine aF (aA hz) fun h1 h2=>?_
   rw [←bJ.length r1] at h1
   exact call_tuple_list (dD (hg _ _ g1)) (fun h' hk=>h _ _ _ _ (fun b o e=>Heap.get?_push_of_some _ (hk b o e)) h2 (bM _ _ ⟨rfl,.inr ⟨Heap.get?_push_size _ rfl,cG.after hk aV⟩,bJ.mono r1 nK⟩)) (kL h1)
  |_=>exact no hz
 |list=>
  cases x with
  |lst l=>
   refine dA hx fun a vs n af5 g1 r1=>?_;subst af5
   refine aF (aA hz) fun h1 h2=>?_
   rw [←bJ.length r1] at h1
   exact call_list_seq a (.inl rfl) (hg _ _ g1) rfl rfl (fun h' c' hk hn=>h _ _ _ _ hk h2 (gE _ _ _ ⟨rfl,.inr ⟨hn,aV⟩,bJ.mono r1 nK⟩)) (kL h1)
  |tup l=>
   refine bN hx fun a vs af6 g1 r1=>?_;subst af6
   refine aF (aA hz) fun h1 h2=>?_
   rw [←bJ.length r1] at h1
   exact call_list_seq a (.inr rfl) (hg _ _ g1) rfl rfl (fun h' c' hk hn=>h _ _ _ _ hk h2 (gE _ _ _ ⟨rfl,.inr ⟨hn,aV⟩,bJ.mono r1 nK⟩)) (kL h1)
  |_=>exact no hz
 |sum=>
  cases x with
  |lst l=>
   refine dA hx fun a vs n af7 g1 r1=>?_;subst af7
   refine aD (aO (aA hz).2) fun j hj h2=>?_
   refine aD (CW r1 hj) fun xs e1 e2=>?_
   exact sum_intListG hh (e1▸dD (hg _ _ g1)) fun h' tk t' hk=>h h' tk _ _ hk h2 ⟨_,by rw [e2]⟩
  |_=>exact no hz
theorem abE {b:B2}(hh:A.handled=none)(hx:Rp w.params g u x)(hy:Rp w.params g v y)(hz:AF b x y k=some z)(h:qJ w.params g s k z Q):wpAny (model prog w) A (call (b2T b) [u,v]) Q E s:=by
 cases b with
 |min=>
  refine dC (M:=fun y' x'=>y=y'→x=x'→_) (show (qO y x fun t=>k (cond t y x))=some z from hz) (fun i j q e1 e2=>?_) rfl rfl
  subst e1 e2
  obtain ⟨_,rfl⟩:=hx;obtain ⟨_,rfl⟩:=hy
  refine min_two_ints hh fun h' tk hk=>?_
  by_cases c:i<j
  ·rw [decide_eq_true c] at q;refine (Eq.symm (if_pos c))▸?_;exact h h' tk _ _ hk q ⟨_,rfl⟩
  ·rw [decide_eq_false c] at q;refine (Eq.symm (if_neg c))▸?_;exact h h' tk _ _ hk q ⟨_,rfl⟩
 |max=>
  refine dC (M:=fun x' y'=>x=x'→y=y'→_) (show (qO x y fun t=>k (cond t y x))=some z from hz) (fun i j q e1 e2=>?_) rfl rfl
  subst e1 e2
  obtain ⟨_,rfl⟩:=hx;obtain ⟨_,rfl⟩:=hy
  refine max_two_ints hh fun h' tk hk=>?_
  by_cases c:i<j
  ·rw [decide_eq_true c] at q;refine (Eq.symm (if_pos c))▸?_;exact h h' tk _ _ hk q ⟨_,rfl⟩
  ·rw [decide_eq_false c] at q;refine (Eq.symm (if_neg c))▸?_;exact h h' tk _ _ hk q ⟨_,rfl⟩
end
section
variable {prog:Program}{w:World}{A:Around}{E:Value→Shared→Prop}{s:Shared}
theorem OY:∀k x,gI k x=true→∀(v:Value) (A:Around) (s:Shared) (Q:Int→Shared→Prop),Rp w.params (gh s.heap) v x→A.units+k<cLine→Q (qZ w.params x) {s with toks:=s.toks+x.draws}→wpAny (model prog w) A (pyHash v) Q E s:=
 gV (fun _ i v A s Q r _ h=>by obtain ⟨t,rfl⟩:=r;exact wpAny_pyHash_int (by rw [←hashW_int (P:=w.params)];exact h)) (fun _ n hn v A s Q r _ h=>by obtain ⟨_,t,rfl⟩:=r;exact wpAny_pyHash_str h) fun k l ih v A s Q r hu h=>by
  obtain ⟨a,vs,rfl,hg,r⟩:=r
  refine pyHash_slot (T:= "tuple") ⟨_,hg,rfl⟩ F.slot_tuple_hash F.entry_tuple_hash (F.args_tuple_hash_1 _) (beq_builtin_none _) (.inr (by lia)) ?_
  show wpAny _ _ (Builtin.Tuple.tupleItemsOf (.ref a)>>=_) _ _ s
  refine wpAny_bind (wpAny_tupleItemsOf hg rfl ?_)
  refine wpAny_bind ?_
  rw [←Array.forIn_toList]
  have loop:∀(l:List V),(∀x∈l,∀(v:Value) (A:Around) (s:Shared) (Q:Int→Shared→Prop),Rp w.params (gh s.heap) v x→A.units+k<cLine→Q (qZ w.params x) {s with toks:=s.toks+x.draws}→wpAny (model prog w) A (pyHash v) Q E s)→
    ∀(vs:List Value) (A:Around) (s:Shared) (b:Array Int) (Q:Array Int→Shared→Prop),bJ w.params (gh s.heap) vs l→A.units+k<cLine→(∀b',b'.toList=b.toList++kG w.params l→Q b' {s with toks:=s.toks+V.drawss l})→
    wpAny (model prog w) A (forIn vs b fun x r=>do let h←pyHash x;pure PUnit.unit;pure (ForInStep.yield (r.push h))) Q E s:=by
   intro l
   induction l with
   |nil=>rintro _ vs A s b Q rfl _ h;exact wpAny_pure (h b (by rw [kG,List.append_nil]))
   |cons x l ihl=>
    rintro f vs A s b Q ⟨v,t,rfl,r1,r2⟩ hu h
    rw [List.forIn_cons]
    refine wpAny_bind (wpAny_bind (f x (.head _) v A s _ r1 hu ?_))
    refine wpAny_bind (wpAny_pure (wpAny_pure ?_))
    refine ihl (fun x hx=>f x (.tail _ hx)) t A _ _ Q r2 hu fun b' hb=>?_
    have:=h b' (by rw [hb,Array.toList_push,kG,List.append_assoc];rfl)
    rw [V.drawss, ←Nat.add_assoc] at this
    exact this
  refine loop l ih vs A.in1 s #[] _ r (by rw [Around.in1_units];lia) fun b hb=>?_
  show wpAny _ _ (retInt (Builtin.Tuple.tupleHashOf b.toList)) _ _ _
  rw [hb]
  exact wpAny_bind (wpAny_mkInt (wpAny_pure (bM _ _ ⟨rfl,h⟩)))
theorem CX {x y:V}{a b:Addr}{Q:Bool→Shared→Prop}(hu:A.units+64<cLine)(hx:cC x=true)(hy:cC y=true)(wx:Rp w.params (gh s.heap) (.ref a) x)(wy:Rp w.params (gh s.heap) (.ref b) y)(h:Q (decide (x=y)) s):wpAny (model prog w) A (eqBool (.ref a) (.ref b)) Q E s:=by
 have hx':=(fU hx).1
 have hy':=(fU hy).1
 unfold eqBool
 try with_reducible refine wpAny_holding ?_
 show wpAny _ _ (if (Value.ref a==Value.ref b)=true then _ else _) Q E s
 by_cases hab:(Value.ref a==Value.ref b)=true
 ·rw [if_pos hab]
  have e:a=b:=by have:=eq_of_beq hab;injection this
  subst e
  rw [decide_eq_true (AC 7 x hx' _ y wx wy)] at h
  exact wpAny_bind (wpAny_rule (wpAny_pure h))
 ·rw [if_neg hab]
  refine wpAny_bind ?_
  show wpAny _ _ (compareOp .Eq (.ref a) (.ref b)) _ _ _
  refine eq_dataH (oR 7 x hx' _ wx).choose_spec (oR 7 y hy' _ wy).choose_spec (fS (by decide) hx') (fS (by decide) hy') hu (wpAny_truthy_bool ?_)
  rw [show PyData.eqv x.py y.py=decide (x=y) from Bool.eq_iff_iff.mpr ((GD 7 x hx' 7 y hy').trans decide_eq_true_iff.symm)];exact h
theorem GU:∀n x,gI n x=true→∀(v:Value) (Q:Bool→Shared→Prop),Rp w.params (gh s.heap) v x→Q true s→wpAny (model prog w) A (eqIsQuiet n v) Q E s:=
 gV (fun n i v Q r h=>by obtain ⟨t,rfl⟩:=r;rw [eqIsQuiet_byValue n rfl];exact wpAny_pure h) (fun n i _ v Q r h=>by obtain ⟨_,t,rfl⟩:=r;rw [eqIsQuiet_byValue n rfl];exact wpAny_pure h) fun n l ih v Q r h=>by
  obtain ⟨a,vs,rfl,g1,r⟩:=r
  have hT:s.TypeIs (.ref a) "tuple" :=⟨_,g1,rfl⟩
  unfold eqIsQuiet
  refine wpAny_bind (wpAny_specialOf hT F.slot_tuple_eq.lookup ?_)
  show wpAny _ _ (isInstance (.ref a) (.type "tuple")>>=_) _ _ s
  refine wpAny_bind (wpAny_isInstance hT isSubtype_tuple_tuple ?_)
  dsimp only [Bool.not_true,Bool.false_eq_true,if_false]
  refine wpAny_bind (wpAny_seqItems g1 rfl ?_)
  refine wpAny_bind ?_
  show wpAny _ _ (forIn vs.toArray _ _) _ _ s
  rw [←Array.forIn_toList]
  have loop:∀(l:List V),(∀x∈l,∀(v:Value) (Q:Bool→Shared→Prop),Rp w.params (gh s.heap) v x→Q true s→wpAny (model prog w) A (eqIsQuiet n v) Q E s)→∀(vs:List Value) (Q:Option Bool×PUnit→Shared→Prop),bJ w.params (gh s.heap) vs l→Q (none,⟨⟩) s→
    wpAny (model prog w) A (forIn vs (none,PUnit.unit) fun y r=>do
     let ok←eqIsQuiet n y
     if (!ok)=true then pure (ForInStep.done (some false,PUnit.unit)) else do pure PUnit.unit;pure (ForInStep.yield (none,PUnit.unit))) Q E s:=by
   intro l
   induction l with
   |nil=>rintro _ vs Q rfl h;exact wpAny_pure h
   |cons x l ihl=>
    rintro f vs Q ⟨v,t,rfl,r1,r2⟩ h
    rw [List.forIn_cons]
    refine wpAny_bind (wpAny_bind (f x (.head _) v _ r1 ?_))
    simp only [Bool.not_true,Bool.false_eq_true,if_false]
    refine wpAny_bind (wpAny_pure (wpAny_pure ?_))
    exact ihl (fun x hx=>f x (.tail _ hx)) t Q r2 h
  exact loop l ih vs _ r (wpAny_pure h)
theorem GV {P:Params}{h h':Heap}{d:Addr}{o:Obj}{es ep}(ho:h.get? d=some o)(hd:o.data=.dict es ep)(hs:Heap.SameBut d h h'):∀k x,gI k x=true→∀v,Rp P (gh h) v x→Rp P (gh h') v x:=
 gV (fun _ _ _ r=>r) (fun _ _ _ _ r=>r) fun k l ih v r=>by
  obtain ⟨a,vs,rfl,g1,r⟩:=r
  have hne:a≠d:=fun e=>by
   subst e
   have e:=g1.symm.trans ho
   cases e;cases hd
  refine (bM a vs ⟨rfl,(hs.2 a hne).trans g1,?_⟩)
  clear g1
  revert vs
  induction l with
  |nil=>exact fun vs r=>r
  |cons x l ihl=>rintro vs ⟨v,t,rfl,r1,r2⟩;exact bJ.cons (ih x (.head _) v r1) (ihl (fun x hx=>ih x (.tail _ hx)) t r2)
end
theorem GW:∀k x,gI k x=true→gI (k+1) x=true:=
 gV (fun _ _=>rfl) (fun _ n hn=>Nat.blt_eq.mpr hn) fun k l ih=>by
  show oQ (gI (k+1)) l=true
  induction l with
  |nil=>rfl
  |cons x l ihl=>show cond (gI (k+1) x) (oQ (gI (k+1)) l) false=true;refine (Eq.symm (ih x (.head _)))▸?_;refine (Eq.symm (ihl fun x hx=>ih x (.tail _ hx)))▸?_;rfl
noncomputable def dV (prog:Program)(w:World):HeapKind prog w V where
 is:=fun h x a=>Rp w.params (gh h) (.ref a) x∧cC x=true
 hash:=qZ w.params
 draws:=V.draws
 room:=fun A=>A.units+64<cLine
 inj:=fun hx hy=>AC 7 _ (fU hx.2).1 _ _ hx.1 hy.1
 keeps:=fun x ho hd hs=>⟨GV ho hd hs 7 _ (fU x.2).1 _ x.1,x.2⟩
 pyHash:=fun hu hk h=>OY 7 _ (fU hk.2).1 _ _ _ _ hk.1 (by lia) h
 eqBool:=fun hu hx hy h=>CX hu hx.2 hy.2 hx.1 hy.1 h
 quiet:=fun hk h=>GU 8 _ (GW 7 _ (fU hk.2).1) _ _ hk.1 h
def uW (P:Params)(g:Gh):List (V×V)→List (V×Addr×Value)→Prop
 |[],xs=>xs=[]
 |p::l,xs=>∃b v t,xs=(p.1,b,v)::t∧cC p.1=true∧AB P g p.1 (.ref b)∧AB P g p.2 v∧uW P g l t
section
variable {prog:Program}{w:World}{A:Around}{E:Value→Shared→Prop}{s:Shared}{P:Params}{g:Gh}{d a:Addr}{l m:List (V×V)}{xs:List (V×Addr×Value)}{es:List DictEntry}{k x y:V}{v:Value}{n:Nat}
theorem xR:∀{es:List DictEntry},hM w.params g es l→∃xs,uW w.params g l xs∧es=xs.map (entryOfKey (dV prog w)):=by
 induction l with
 |nil=>rintro _ rfl;exact ⟨[],rfl,rfl⟩
 |cons p l ih=>
  rintro _ ⟨b,v,t,rfl,h1,h2,h3,r⟩
  refine aD (ih r) fun xs q1 af9=>?_;subst af9
  exact ⟨_,(gE b v xs ⟨rfl,h1,h2,h3,q1⟩),rfl⟩
theorem xS:∀{xs:List (V×Addr×Value)},uW w.params g l xs→hM w.params g (xs.map (entryOfKey (dV prog w))) l:=by
 induction l with
 |nil=>rintro _ rfl;rfl
 |cons p l ih=>rintro _ ⟨b,v,t,rfl,h1,h2,h3,r⟩;exact (gE b v _ ⟨rfl,h1,h2,h3,ih r⟩)
theorem fZ:∀{xs:List (V×Addr×Value)},uW P g l xs→xs.map (·.1)=l.map (·.1):=by
 induction l with
 |nil=>rintro _ rfl;rfl
 |cons p l ih=>rintro _ ⟨b,v,t,rfl,_,_,_,r⟩;exact congrArg (p.1:: ·) (ih r)
theorem GX (hg:lF g s):∀{xs:List (V×Addr×Value)},uW w.params g l xs→∀x∈xs,(dV prog w).is s.heap x.1 x.2.1:=by
 induction l with
 |nil=>rintro _ rfl x h;cases h
 |cons p l ih=>
  rintro _ ⟨b,v,t,rfl,h1,h2,_,r⟩ x h
  cases h with
  |head=>exact ⟨Rp.mono h2 hg,h1⟩
  |tail _ h=>exact ih r x h
theorem OZ (r:uW P g m xs):∀{ys},uW P g l ys→uW P g (l++m) (ys++xs):=by
 induction l with
 |nil=>rintro _ rfl;exact r
 |cons p l ih=>rintro _ ⟨b,v,t,rfl,h1,h2,h3,q⟩;exact (gE b v _ ⟨rfl,h1,h2,h3,ih q⟩)
theorem tC {a:V}(e:a=k){b:Addr}{u:Value}{t:List (V×Addr×Value)}:PySem.atKey ((a,b,u)::t) k=some (b,u):=by unfold PySem.atKey;rw [List.find?_cons_of_pos (by exact decide_eq_true e)];rfl
theorem lK {a:V}(ne:¬a=k){b:Addr}{u:Value}{t:List (V×Addr×Value)}:PySem.atKey ((a,b,u)::t) k=PySem.atKey t k:=by unfold PySem.atKey;rw [List.find?_cons_of_neg (by simpa using ne)]
theorem pC {β:Type}{p k:V}{f:Bool→Option β}{z:β}{M:Prop}(h:(iH 8 p k).bind f=some z)(h1:p=k→f true=some z→M)(h2:¬p=k→f false=some z→M):M:=by
 refine aD (aO h) fun c e1 e2=>?_
 have e:=AI _ _ _ _ e1
 cases c with
 |true=>exact h1 (e.mp rfl) e2
 |false=>exact h2 (fun q=>Bool.noConfusion (e.mpr q)) e2
theorem lL {β:Type}{q:Option V→Option β}{z:β}{M:Prop}(h1:∀b v y,PySem.atKey xs k=some (b,v)→Rp P g v y→q (some y)=some z→M)(h2:PySem.atKey xs k=none→q none=some z→M):uW P g l xs→fW k q l=some z→M:=by
 induction l generalizing xs with
 |nil=>exact fun e hz=>h2 (e▸rfl) hz
 |cons p l ih=>
  exact fun e hz=>oP e fun b v t e _ _ h3 r=>pC (show (iH 8 p.1 k).bind (fun t=>cond t (q (some p.2)) (fW k q l))=some z from hz)
   (fun ek e2=>h1 b v p.2 (e▸tC ek) h3 e2) fun ne e2=>ih (fun b v y q1=>h1 b v y ((e▸lK ne:PySem.atKey xs k=_).trans q1)) (fun q1=>h2 ((e▸lK ne:PySem.atKey xs k=_).trans q1)) r e2
theorem PA (hv:Rp P g v y){p:V×V}{b:Addr}{u:Value}{t:List (V×Addr×Value)}(e:p.1=k)(h1:cC p.1=true)(h2:AB P g p.1 (.ref b))(r:uW P g l t)(nm:p.1∉l.map (·.1)):
  k∈(p::l).map (·.1)∧PySem.atKey ((p.1,b,u)::t) k≠none∧((p.1,y)::l).map (·.1)=(p::l).map (·.1)∧uW P g ((p.1,y)::l) (((p.1,b,u)::t).map (PySem.putAt k v)):=by
 refine ⟨e▸.head _,fun q=>absurd ((tC e).symm.trans q) (Option.some_ne_none _),rfl,b,v,t,?_,h1,h2,hv,r⟩
 refine (Eq.symm List.map_cons)▸?_;refine (Eq.symm (PySem.map_putAt_of_not_mem t k v (by rw [fZ r];exact e▸nm)))▸?_
 congr 1
 exact if_pos e
theorem PB (hv:Rp P g v y){xs:List (V×Addr×Value)}{w:List (V×V)}:uW P g l xs→(l.map (·.1)).Nodup→qP k y l=some w→
  (k∈l.map (·.1)∧PySem.atKey xs k≠none∧w.map (·.1)=l.map (·.1)∧uW P g w (xs.map (PySem.putAt k v)))∨(k∉l.map (·.1)∧PySem.atKey xs k=none∧w=l++[(k,y)]):=by
 induction l generalizing xs w with
 |nil=>exact fun e _ hz=>.inr ⟨List.not_mem_nil,e▸rfl,(Option.some.inj hz).symm⟩
 |cons p l ih=>
  refine fun e hn hz=>oP e fun b u t e h1 h2 h3 r=>?_
  rw [List.map_cons,List.nodup_cons] at hn
  refine pC (show (iH 8 p.1 k).bind (fun t=>cond t (some ((p.1,y)::l)) ((qP k y l).bind fun z=>some (p::z)))=some w from hz) (fun ek e2=>?_) fun ne e2=>?_
  ·exact .inl (e▸Option.some.inj e2▸PA hv ek h1 h2 r hn.1)
  ·refine aD (aO (show (qP k y l).bind (fun z=>some (p::z))=some w from e2)) fun w' e3 e4=>?_
   refine (ih r hn.2 e3).elim (fun q=>.inl (e▸Option.some.inj e4▸⟨.tail _ q.1,(lK ne).symm▸q.2.1,congrArg (p.1:: ·) q.2.2.1,b,u,_,?_,h1,h2,h3,q.2.2.2⟩)) fun q=>.inr ⟨fun m=>(List.mem_cons.mp m).elim (fun q=>ne q.symm) q.1,(e▸lK ne:PySem.atKey xs k=_).trans q.2.1,(Option.some.inj e4).symm.trans (congrArg (p:: ·) q.2.2)⟩
   exact congrArg (· ::t.map (PySem.putAt k v)) (if_neg ne)
theorem AM {xs:List (V×Addr×Value)}{w:List (V×V)}:uW P g l xs→(l.map (·.1)).Nodup→sS k l=some w→
  w.Sublist l∧(PySem.atKey xs k=none→w=l)∧∀j p,xs[j]? =some (k,p)→uW P g w (xs.eraseIdx j):=by
 induction l generalizing xs w with
 |nil=>exact fun e _ hz=>Option.some.inj hz▸⟨.refl _,fun _=>rfl,fun j p h=>(by rw [e] at h;cases h)⟩
 |cons p l ih=>
  refine fun e hn hz=>oP e fun b u t e h1 h2 h3 r=>?_
  rw [List.map_cons,List.nodup_cons] at hn
  refine pC (show (iH 8 p.1 k).bind (fun t=>cond t (some l) ((sS k l).bind fun z=>some (p::z)))=some w from hz) (fun ek e2=>?_) fun ne e2=>?_
  ·refine Option.some.inj e2▸e▸⟨List.sublist_cons_self ..,fun q=>absurd ((tC ek).symm.trans q) (Option.some_ne_none _),fun j q hj=>?_⟩
   cases j with
   |zero=>exact r
   |succ j=>exact absurd (ek.symm▸fZ r▸List.mem_map_of_mem (f:=(·.1)) (List.mem_of_getElem? (show t[j]? =_ from hj))) hn.1
  ·refine aD (aO (show (sS k l).bind (fun z=>some (p::z))=some w from e2)) fun w' e3 e4=>?_
   refine eT (ih r hn.2 e3) fun q1 q2 q3=>?_
   refine Option.some.inj e4▸e▸⟨q1.cons_cons _,fun q=>congrArg (p:: ·) (q2 ((lK ne).symm.trans q)),fun j q hj=>?_⟩
   cases j with
   |zero=>exact absurd (congrArg Prod.fst (Option.some.inj hj)) ne
   |succ j=>exact ⟨b,u,_,rfl,h1,h2,h3,q3 j q hj⟩
theorem dictOf (hg:lF g s)(ho:s.heap.get? d=some (cD es n))(hr:hM w.params g es l)(hn:(l.map (·.1)).Nodup):∃xs,uW w.params g l xs∧s.heap.DictOfH (dV prog w) d xs:=by
 refine aD (xR (prog:=prog) hr) fun xs h1 h2=>?_
 exact ⟨xs,h1,_,es.toArray,n,ho,⟨rfl,rfl,rfl⟩,rfl,by simpa using h2,GX hg h1,by rw [fZ h1];exact hn⟩
theorem pD {h:Heap}(hm:h.DictOfH (dV prog w) d xs):∃n,h.get? d=some (cD (xs.map (entryOfKey (dV prog w))) n):=by
 refine TZ hm fun aqR es ep ho aqS hdat he _ _=>?_;obtain ⟨c,dd,dt,sl⟩:=aqR;obtain ⟨hc,hd,hs⟩:=aqS
 refine ⟨ep,?_⟩
 simp only at hc hd hs hdat
 subst hc hd hs hdat
 rw [ho, ←he]
theorem pE (hu:A.units+66<cLine):(dV prog w).room A.in1:=by
 show A.in1.units+64<cLine
 rw [Around.in1_units];lia
section
variable {β:Type}{K:V→Option β}{z:β}(hg:lF g s)(hu:A.units+66<cLine)(ho:s.heap.get? d=some (cD es n))(hr:hM w.params g es l)(hn:(l.map (·.1)).Nodup)(hk:Rp w.params g (.ref a) k)(hkk:cC k=true)
include hg hu ho hr hn hk hkk
theorem tD {Q:Value→Shared→Prop}(hz:fW k (fun o=>match o with|some z=>K z|none=>none) l=some z)(h:qJ w.params g s K z Q):wpAny (model prog w) A (getItem (.ref d) (.ref a)) Q E s:=by
 refine aD (dictOf (prog:=prog) hg ho hr hn) fun xs h1 h2=>?_
 exact lL (fun b v y e1 rv q=>wpAny_getItem_heap (pE hu) ⟨Rp.mono hk hg,hkk⟩ h2 e1 (h.at q rv)) (fun _ q=>no q) h1 hz
theorem GY {dflt:Value}{Q:Value→Shared→Prop}(hsys:(d==sysModules)=false)(hd:Rp w.params g dflt y)(hz:fW k (fun o=>K (o.getD y)) l=some z)(h:qJ w.params g s K z Q):wpAny (model prog w) A (call (.builtin "dict.get") [.ref d,.ref a,dflt]) Q E s:=by
 refine aD (dictOf (prog:=prog) hg ho hr hn) fun xs h1 h2=>?_
 refine call_meetsIn F.slot_dict_get ⟨_,ho,rfl⟩ F.entry_dict_get (F.args_dict_get_3 _ _ _) (meetsH_dict_get_default (dV prog w) d a hsys dflt) ⟨pE hu,k,xs,⟨Rp.mono hk hg,hkk⟩,h2,?_⟩
 exact lL (fun b v y e1 rv q=>by refine (Eq.symm e1)▸?_;exact h.at q rv) (fun e1 q=>by refine (Eq.symm e1)▸?_;exact h.at q hd) h1 hz
omit hu in
theorem mZ {v:Value}{w':List (V×V)}{xs:List (V×Addr×Value)}(h1:uW w.params g l xs)(hv:Rp w.params g v y)(hp:qP k y l=some w'):hM w.params g ((PySem.storedH xs k a v).map (entryOfKey (dV prog w))) w'∧(w'.map (·.1)).Nodup:=by
 rcases PB hv h1 hn hp with ⟨_,q2,q3,q4⟩|⟨q1,q2,rfl⟩
 ·obtain ⟨p,hp⟩:=Option.ne_none_iff_exists'.mp q2
  rw [PySem.storedH_old hp]
  exact ⟨xS q4,by rw [q3];exact hn⟩
 ·rw [PySem.storedH_new q2]
  refine ⟨xS (OZ (show uW w.params g [(k,y)] _ from (gE a v [] ⟨rfl,hkk,hk,hv,rfl⟩)) h1),?_⟩
  rw [List.map_append,List.nodup_append]
  exact ⟨hn,List.nodup_cons.mpr ⟨nofun,List.nodup_nil⟩,fun b hb c hc q=>q1 (by have e:b=k:=List.mem_singleton.mp (q▸hc);subst e;exact hb)⟩
theorem tE {w':List (V×V)}{v:Value}{Q:Unit→Shared→Prop}(hv:Rp w.params g v y)(hsz:l.length≤sizeLine)(hp:qP k y l=some w')
  (h:∀h' tk es' n',Heap.SameBut d s.heap h'→h'.get? d=some (cD es' n')→hM w.params g es' w'→(w'.map (·.1)).Nodup→Q () {s with heap:=h',toks:=tk}):wpAny (model prog w) A (setItem (.ref d) (.ref a) v) Q E s:=by
 refine aD (dictOf (prog:=prog) hg ho hr hn) fun xs h1 h2=>?_
 refine wpAny_setItem_heap (pE hu) ⟨Rp.mono hk hg,hkk⟩ h2 (fun h' hm hs=>?_) (by rw [←List.length_map (f:=(·.1)),fZ h1,List.length_map];exact hsz)
 refine aR (pD hm) fun n' ho'=>?_
 refine aF (mZ (prog:=prog) hg ho hr hn hk hkk h1 hv hp) fun q1 q2=>?_
 exact h h' _ _ n' hs ho' q1 q2
theorem tF {w':List (V×V)}{v:Value}{Q:Unit→Shared→Prop}(hv:Rp w.params g v y)(hsz:l.length≤sizeLine)(hp:qP k y l=some w')
  (h:∀h' tk es' n',Heap.SameBut d s.heap h'→h'.get? d=some (cD es' n')→hM w.params g es' w'→(w'.map (·.1)).Nodup→Q () {s with heap:=h',toks:=tk}):wpAny (model prog w) A (dictSet d (.ref a) v) Q E s:=by
 refine aD (dictOf (prog:=prog) hg ho hr hn) fun xs h1 h2=>?_
 refine wpAny_dictSet_heap (knd:=dV prog w) (show A.units+64<cLine by lia) ⟨Rp.mono hk hg,hkk⟩ h2 (fun h' hm hs=>?_) (by rw [←List.length_map (f:=(·.1)),fZ h1,List.length_map];exact hsz)
 refine aR (pD hm) fun n' ho'=>?_
 refine aF (mZ (prog:=prog) hg ho hr hn hk hkk h1 hv hp) fun q1 q2=>?_
 exact h h' _ _ n' hs ho' q1 q2
end
end
section
variable {prog:Program}{w:World}{A:Around}{E:Value→Shared→Prop}{s:Shared}{g:Gh}{d it:Addr}{es:List DictEntry}{n i:Nat}
theorem rK {Q:Value→Shared→Prop}(hsys:(d==sysModules)=false)(ho:s.heap.get? d=some (cD es n))
  (hQ:Q (.ref s.heap.objs.size) {s with heap:=s.heap.push {cls:=.type "dict_keyiterator",data:=.fields #[.ref d,.int 0 0,.int es.length 0,.int n 0]}}):
  wpAny (model prog w) A (pyIter (.ref d)) Q E s:=by
 have hT:s.TypeIs (.ref d) "dict" :=⟨_,ho,rfl⟩
 refine wpAny_pyIter_slot hT F.slot_dict_iter (wpAny_call_entry F.slot_dict_iter hT F.entry_dict_iter ?_ (F.args_dict_iter_1 _))
 unfold Builtin.«dict.__iter__» Builtin.Dict.dictSlotNone
 refine wpAny_bind (wpAny_bind (wpAny_notOrdered_dict hT ?_))
 show wpAny _ _ (pure (Value.ref d)) _ _ s
 refine wpAny_pure ?_
 show wpAny _ _ (Builtin.Dict.showsAll d>>=_) _ _ s
 unfold Builtin.Dict.showsAll
 rw [if_neg (by rw [hsys];exact Bool.false_ne_true)]
 refine wpAny_bind (wpAny_pure (wpAny_bind (wpAny_dictEntries ho rfl (wpAny_bind (wpAny_dictEpoch ho rfl ?_)))))
 refine wpAny_bind (wpAny_newObj_type (wpAny_pure ⟨_,rfl, "dict_keyiterator",_,⟨_,Heap.get?_push_size _ rfl,rfl⟩,F.slot_dict_keyiterator_next.lookup,?_⟩))
 simpa [rawInt] using hQ
theorem PC {es:List DictEntry}{i:Nat}:(if (i:Int)<0 then none else es.toArray[(i:Int).toNat]?)=es[i]? :=(if_neg (by omega)).trans (by simp)
theorem GZ {e:DictEntry}{Q:Option Value→Shared→Prop}(hit:s.heap.IsKeyIter it d i es.length n)(ho:s.heap.get? d=some (cD es n))(hx:es[i]? =some e)
  (hQ:∀h',h'.IsKeyIter it d (i+1) es.length n→Heap.SameBut it s.heap h'→Q (some e.key) {s with heap:=h'}):
  wpAny (model prog w) A (pyNext (.ref it)) Q E s:=by
 refine eM (id hit) fun o hoi hc hd=>?_
 have hlt:i<es.length:=(List.getElem?_eq_some_iff.mp hx).1
 unfold pyNext
 refine wpAny_bind (wpAny_attempt (wpAny_callSpecial?_slot (name:=Str.ofString "__next__") hit.typeIs F.slot_dict_keyiterator_next
  (wpAny_call_entry F.slot_dict_keyiterator_next hit.typeIs F.entry_dict_keyiterator_next ?_ (F.args_dict_keyiterator_next_1 _))))
 refine wpAny_bind (wpAny_pure (wpAny_bind (wpAny_bind ?_)))
 first|refine wpAny_bind (wpAny_typeNameOfWhole_keyiter hit.typeIs (wpAny_pure ?_))|refine wpAny_bind (wpAny_typeNameOf_keyiter hit.typeIs (wpAny_pure ?_))
 refine wpAny_bind (wpAny_fieldsOf hoi hd ?_)
 rw [if_neg (show ¬(Builtin.Dict_items.ownsTuple "dict_keyiterator" =true) by decide)]
 show wpAny _ _ (if (Value.ref d==Value.none)=true then _ else _) _ _ s
 rw [if_neg (show ¬((Value.ref d==Value.none)=true) from Bool.false_ne_true)]
 refine wpAny_bind (wpAny_pure (wpAny_bind (wpAny_dictEntries ho rfl ?_)))
 rw [if_neg (by simp)]
 refine wpAny_bind (wpAny_pure (wpAny_bind (wpAny_dictEpoch ho rfl ?_)))
 rw [if_neg (by simp)]
 refine wpAny_pure ?_
 dsimp only;refine (Eq.symm (PC.trans hx))▸?_;dsimp only
 refine wpAny_bind ?_
 first|refine wpAny_bind (wpAny_typeNameOfWhole_keyiter hit.typeIs (wpAny_pure ?_))|refine wpAny_bind (wpAny_typeNameOf_keyiter hit.typeIs (wpAny_pure ?_))
 refine wpAny_bind (wpAny_isOneOf_keyiter hit.typeIs ?_)
 show wpAny _ _ (setField (.ref it) 1 (rawInt ((i:Int)+1))>>=_) _ _ s
 refine wpAny_bind (wpAny_setField hoi hd (by simp) ?_)
 have hit':(s.heap.update it (Obj.mapFields (·.setIfInBounds 1 (rawInt ((i:Int)+1))))).IsKeyIter it d (i+1) es.length n:=
  ⟨_,Heap.get?_update_self _ hoi (Obj.isFreed_of_fields (Obj.data_mapFields hd _)),(Obj.cls_mapFields ..).trans hc,by rw [Obj.data_mapFields hd];simp [rawInt]⟩
 refine wpAny_bind (wpAny_holding ?_)
 refine wpAny_bind (wpAny_isOneOf_keyiter (s:={s with heap:=s.heap.update it (Obj.mapFields (·.setIfInBounds 1 (rawInt ((i:Int)+1))))}) hit'.typeIs ?_)
 show wpAny _ _ (pure e.key) _ _ _
 exact wpAny_pure (wpAny_pure ⟨_,rfl,wpAny_pure (hQ _ hit' (Heap.SameBut.update ..))⟩)
theorem rL {α:Type}{Q:Option α→Shared→Prop}{K:Fin→Shared→Prop}(hh:A.handled=none)(hQ:∀h',Heap.ExtBut it s.heap h'→Q none {s with heap:=h'}):
  wpAny (model prog w) A.in1 (do let e←newExc (Value.type "StopIteration") [];raiseNew e) K
   (fun e s'=>wpAny (model prog w) A (do let b←isInstance e (Value.type "StopIteration");if b=true then pure none else throw e) Q E s') s:=by
 refine wpAny_bind ?_
 dsimp only [newExc,newTuple]
 refine wpAny_bind (wpAny_newObj_type ?_ (by size_fits))
 refine wpAny_bind (m:=firstArgMember _ _) (wpAny_of_eq (a:=Value.none) (by first|rfl|(dsimp only [firstArgMember];rfl)) ?_)
 refine wpAny_newObj_type ?_ (by size_fits)
 dsimp only [raiseNew]
 refine wpAny_bind (wpAny_handled ?_)
 refine (Eq.symm (show A.in1.handled=none from hh))▸?_
 refine wpAny_bind (wpAny_pure (wpAny_throw ?_))
 refine wpAny_bind (wpAny_isInstance (T:= "StopIteration") (b:=true) ⟨_,Heap.get?_push_size _ rfl,rfl⟩ isSubtype_stop ?_)
 exact wpAny_pure (hQ _ (((Heap.ExtBut.refl it s.heap).push _).push _))
theorem AN {Q:Option Value→Shared→Prop}(hh:A.handled=none)(hit:s.heap.IsKeyIter it d i es.length n)(ho:s.heap.get? d=some (cD es n))(hx:es.length≤i)
  (hQ:∀h',Heap.ExtBut it s.heap h'→Q none {s with heap:=h'}):wpAny (model prog w) A (pyNext (.ref it)) Q E s:=by
 refine eM (id hit) fun o hoi hc hd=>?_
 unfold pyNext
 refine wpAny_bind (wpAny_attempt (wpAny_callSpecial?_slot (name:=Str.ofString "__next__") hit.typeIs F.slot_dict_keyiterator_next
  (wpAny_call_entry F.slot_dict_keyiterator_next hit.typeIs F.entry_dict_keyiterator_next ?_ (F.args_dict_keyiterator_next_1 _))))
 refine wpAny_bind (wpAny_pure (wpAny_bind (wpAny_bind ?_)))
 first|refine wpAny_bind (wpAny_typeNameOfWhole_keyiter hit.typeIs (wpAny_pure ?_))|refine wpAny_bind (wpAny_typeNameOf_keyiter hit.typeIs (wpAny_pure ?_))
 refine wpAny_bind (wpAny_fieldsOf hoi hd ?_)
 rw [if_neg (show ¬(Builtin.Dict_items.ownsTuple "dict_keyiterator" =true) by decide)]
 show wpAny _ _ (if (Value.ref d==Value.none)=true then _ else _) _ _ s
 refine (Eq.symm (if_neg (show ¬((Value.ref d==Value.none)=true) from Bool.false_ne_true)))▸?_
 refine wpAny_bind (wpAny_pure (wpAny_bind (wpAny_dictEntries ho rfl ?_)))
 rw [if_neg (by simp)]
 refine wpAny_bind (wpAny_pure (wpAny_bind (wpAny_dictEpoch ho rfl ?_)))
 rw [if_neg (by simp)]
 refine wpAny_pure ?_
 dsimp only;refine (Eq.symm (PC.trans (List.getElem?_eq_none hx)))▸?_;dsimp only
 refine wpAny_bind ?_
 first|refine wpAny_bind (wpAny_typeNameOfWhole_keyiter hit.typeIs (wpAny_pure ?_))|refine wpAny_bind (wpAny_typeNameOf_keyiter hit.typeIs (wpAny_pure ?_))
 show wpAny _ _ (setField (.ref it) 0 .none>>=_) _ _ s
 exact wpAny_bind (wpAny_setField hoi hd (by simp) (rL hh fun h' he=>hQ h' ((Heap.SameBut.update ..).extBut.trans he)))
theorem xT {Q:Value→Shared→Prop}(hsys:(d==sysModules)=false)(ho:s.heap.get? d=some (cD es n))
  (hQ:Q (.ref s.heap.objs.size) {s with heap:=s.heap.push {cls:=.type "dict_items",data:=.fields #[.ref d]}}):
  wpAny (model prog w) A (call (.builtin "dict.items") [.ref d]) Q E s:=by
 have main:MeetsIn prog w (Builtin.«dict.items» ⟨[.ref d],[]⟩) (fun _ R s'=>s'=s∧R (.ok (.ret (.ref s.heap.objs.size))) {s with heap:=s.heap.push {cls:=.type "dict_items",data:=.fields #[.ref d]}}):=
  .of_wp fun A' R s' ⟨e,h⟩=>by
   subst e
   unfold Builtin.«dict.items» Builtin.Dict.noArgs
   refine wpAny_bind (wpAny_bind (wpAny_notOrdered_dict ⟨_,ho,rfl⟩ ?_))
   show wpAny _ _ (pure d) _ _ s'
   refine wpAny_pure ?_
   show wpAny _ _ (Builtin.Dict.showsAll d>>=_) _ _ s'
   unfold Builtin.Dict.showsAll
   rw [if_neg (by rw [hsys];exact Bool.false_ne_true)]
   exact wpAny_bind (wpAny_pure (wpAny_bind (wpAny_newObj_type (wpAny_pure ⟨_,rfl,h⟩))))
 exact call_meetsIn F.slot_dict_items ⟨_,ho,rfl⟩ F.entry_dict_items (F.args_dict_items_1 _) main ⟨rfl,hQ⟩
theorem xU {v:Addr}{Q:Value→Shared→Prop}(hv:s.heap.IsItemsView v d)(ho:s.heap.get? d=some (cD es n))
  (hQ:Q (.ref s.heap.objs.size) {s with heap:=s.heap.push {cls:=.type "dict_itemiterator",data:=.fields #[.none,.bool false,.ref d,.int 0 0,.int es.length 0,.int n 0,.none,.none]}}):
  wpAny (model prog w) A (pyIter (.ref v)) Q E s:=by
 refine eM (id hv) fun ov hov hcv hdv=>?_
 refine wpAny_pyIter_slot hv.typeIs F.slot_dict_items_iter (wpAny_call_entry F.slot_dict_items_iter hv.typeIs F.entry_dict_items_iter ?_ (F.args_dict_items_iter_1 _))
 unfold Builtin.«dict_items.__iter__» Builtin.Dict_items.dictOf
 refine wpAny_bind (wpAny_pure (wpAny_bind (wpAny_bind (wpAny_field hov hdv (x:=.ref d) rfl (wpAny_pure (wpAny_bind ?_))))))
 unfold Builtin.Dict_items.newIterator
 refine wpAny_bind (wpAny_dictEntries ho rfl (wpAny_bind (wpAny_dictEpoch ho rfl ?_)))
 simp only [show Builtin.Dict_items.ownsTuple "dict_itemiterator" =true by decide,if_true]
 refine wpAny_newObj_type (wpAny_pure ⟨_,rfl, "dict_itemiterator",_,⟨_,Heap.get?_push_size _ rfl,rfl⟩,F.slot_dict_itemiterator_next.lookup,?_⟩)
  (by simp only [sizeOk,Builtin.Dict_items.ownedTupleFields,List.size_toArray,List.length_append,List.length_cons,List.length_nil,sizeLine_eq];omega)
 simpa [rawInt,Builtin.Dict_items.ownedTupleFields] using hQ
theorem CY {e:DictEntry}{ok ov:Value}{Q:Option Value→Shared→Prop}(hit:IsItemIter s.heap it d i es.length n ok ov)(ho:s.heap.get? d=some (cD es n))(hx:es[i]? =some e)
  (hQ:∀h',IsItemIterOut h' it d (i+1) es.length n e.key e.val s.heap.objs.size→h'.get? s.heap.objs.size=some {cls:=.type "tuple",data:=.seq #[e.key,e.val]}→
   Heap.ExtBut it s.heap h'→Q (some (.ref s.heap.objs.size)) {s with heap:=h'}):
  wpAny (model prog w) A (pyNext (.ref it)) Q E s:=by
 obtain ⟨hp,gs,dr,tk,os⟩:=s
 have hT:Shared.TypeIs ⟨hp,gs,dr,tk,os⟩ (.ref it) "dict_itemiterator" :=⟨_,hit,rfl⟩
 have hlt:i<es.length:=(List.getElem?_eq_some_iff.mp hx).1
 unfold pyNext
 refine wpAny_bind (wpAny_attempt (wpAny_callSpecial?_slot (name:=Str.ofString "__next__") hT F.slot_dict_itemiterator_next
  (wpAny_call_entry F.slot_dict_itemiterator_next hT F.entry_dict_itemiterator_next ?_ (F.args_dict_itemiterator_next_1 _))))
 refine wpAny_bind (wpAny_pure (wpAny_bind (wpAny_bind ?_)))
 first|refine wpAny_bind (wpAny_typeNameOfWhole_itemiter hT (wpAny_pure ?_))|refine wpAny_bind (wpAny_typeNameOf_itemiter hT (wpAny_pure ?_))
 refine wpAny_bind (wpAny_fieldsOf hit rfl ?_)
 rw [if_pos (show Builtin.Dict_items.ownsTuple "dict_itemiterator" =true by decide)]
 show wpAny _ _ (if (Value.ref d==Value.none)=true then _ else _) _ _ _
 refine (Eq.symm (if_neg (show ¬((Value.ref d==Value.none)=true) from Bool.false_ne_true)))▸?_
 refine wpAny_bind (wpAny_pure (wpAny_bind (wpAny_dictEntries ho rfl ?_)))
 rw [if_neg (by simp)]
 refine wpAny_bind (wpAny_pure (wpAny_bind (wpAny_dictEpoch ho rfl ?_)))
 rw [if_neg (by simp)]
 refine wpAny_pure ?_
 dsimp only;refine (Eq.symm (PC.trans hx))▸?_;dsimp only
 refine wpAny_bind ?_
 first|refine wpAny_bind (wpAny_typeNameOfWhole_itemiter hT (wpAny_pure ?_))|refine wpAny_bind (wpAny_typeNameOf_itemiter hT (wpAny_pure ?_))
 refine wpAny_bind (wpAny_isOneOf_itemiter hT ?_)
 show wpAny _ _ (setField (.ref it) 3 (rawInt ((i:Int)+1))>>=_) _ _ ⟨hp,gs,dr,tk,os⟩
 refine wpAny_bind (wpAny_setField_rec hit (by simp) fun h₁ he₁ hs₁=>?_)
 replace hs₁:Heap.SameBut it hp h₁:=hs₁
 replace he₁:IsItemIter h₁ it d (i+1) es.length n ok ov:=by
  have e:((i+1:Nat):Int)=(i:Int)+1:=by omega
  unfold IsItemIter;refine (Eq.symm e)▸?_;simpa [rawInt] using he₁
 have hT₁:Shared.TypeIs ⟨h₁,gs,dr,tk,os⟩ (.ref it) "dict_itemiterator" :=⟨_,he₁,rfl⟩
 refine wpAny_bind (wpAny_holding (wpAny_bind (wpAny_isOneOf_itemiter hT₁ ?_)))
 refine wpAny_bind (wpAny_isOneOf_itemiter hT₁ ?_)
 show wpAny _ _ (Builtin.Dict_items.pairFromOwner (.ref it) 6 e.key e.val) _ _ ⟨h₁,gs,dr,tk,os⟩
 unfold Builtin.Dict_items.pairFromOwner
 refine wpAny_bind (wpAny_newTuple ?_)
 have hz:h₁.objs.size=hp.objs.size:=hs₁.1
 have hne:hp.objs.size≠it:=Nat.ne_of_gt (Heap.lt_size hit)
 have he₂:IsItemIter (h₁.push {cls:=.type "tuple",data:=.seq #[e.key,e.val]}) it d (i+1) es.length n ok ov:=Heap.get?_push_of_some _ he₁
 have ht₂:(h₁.push {cls:=.type "tuple",data:=.seq #[e.key,e.val]}).get? hp.objs.size=some {cls:=.type "tuple",data:=.seq #[e.key,e.val]}:=by refine hz▸?_;exact Heap.get?_push_size _ rfl
 have hk₂:Heap.ExtBut it hp (h₁.push {cls:=.type "tuple",data:=.seq #[e.key,e.val]}):=hs₁.extBut.push _
 show wpAny _ _ (Builtin.Dict_items.ownedTupleIsFree (.ref it)>>=_) _ _ ⟨_,gs,dr,tk,os⟩
 refine (Eq.symm (show Value.ref h₁.objs.size=Value.ref hp.objs.size by rw [hz]))▸?_
 generalize h₁.push {cls:=.type "tuple",data:=.seq #[e.key,e.val]}=h₂ at he₂ ht₂ hk₂
 refine wpAny_bind ?_
 unfold Builtin.Dict_items.ownedTupleIsFree
 refine wpAny_bind (wpAny_field he₂ rfl (x:=.none) rfl (wpAny_pure ?_))
 simp only [if_true]
 refine wpAny_bind (wpAny_field he₂ rfl (x:=ok) rfl (wpAny_bind (wpAny_field he₂ rfl (x:=ov) rfl ?_)))
 refine wpAny_bind (wpAny_setField_rec he₂ (by simp) fun h₃ he₃ hs₃=>?_)
 replace hs₃:Heap.SameBut it h₂ h₃:=hs₃
 replace he₃:IsItemIter h₃ it d (i+1) es.length n e.key ov:=he₃
 refine wpAny_bind (wpAny_setField_rec he₃ (by simp) fun h₄ he₄ hs₄=>?_)
 replace hs₄:Heap.SameBut it h₃ h₄:=hs₄
 replace he₄:IsItemIter h₄ it d (i+1) es.length n e.key e.val:=he₄
 refine wpAny_bind (wpAny_setField_rec he₄ (by simp) fun h₅ he₅ hs₅=>?_)
 replace hs₅:Heap.SameBut it h₄ h₅:=hs₅
 replace he₅:IsItemIterOut h₅ it d (i+1) es.length n e.key e.val hp.objs.size:=he₅
 refine wpAny_bind (wpAny_setField_rec he₅ (by simp) fun h₆ he₆ hs₆=>?_)
 replace hs₆:Heap.SameBut it h₅ h₆:=hs₆
 replace he₆:IsItemIterOut h₆ it d (i+1) es.length n e.key e.val hp.objs.size:=he₆
 have hk:Heap.ExtBut it h₂ h₆:=hs₃.extBut.trans (hs₄.extBut.trans (hs₅.extBut.trans hs₆.extBut))
 exact wpAny_bind (wpAny_letGo (wpAny_pure (wpAny_pure ⟨_,rfl,wpAny_pure (hQ h₆ he₆ (hk _ _ hne ht₂) (hk₂.trans hk))⟩)))
theorem HA {ok ov:Value}{Q:Option Value→Shared→Prop}(hh:A.handled=none)(hit:IsItemIter s.heap it d i es.length n ok ov)(ho:s.heap.get? d=some (cD es n))(hx:es.length≤i)
  (hQ:∀h',Heap.ExtBut it s.heap h'→Q none {s with heap:=h'}):wpAny (model prog w) A (pyNext (.ref it)) Q E s:=by
 have hT:s.TypeIs (.ref it) "dict_itemiterator" :=⟨_,hit,rfl⟩
 unfold pyNext
 refine wpAny_bind (wpAny_attempt (wpAny_callSpecial?_slot (name:=Str.ofString "__next__") hT F.slot_dict_itemiterator_next
  (wpAny_call_entry F.slot_dict_itemiterator_next hT F.entry_dict_itemiterator_next ?_ (F.args_dict_itemiterator_next_1 _))))
 refine wpAny_bind (wpAny_pure (wpAny_bind (wpAny_bind ?_)))
 first|refine wpAny_bind (wpAny_typeNameOfWhole_itemiter hT (wpAny_pure ?_))|refine wpAny_bind (wpAny_typeNameOf_itemiter hT (wpAny_pure ?_))
 refine wpAny_bind (wpAny_fieldsOf hit rfl ?_)
 rw [if_pos (show Builtin.Dict_items.ownsTuple "dict_itemiterator" =true by decide)]
 show wpAny _ _ (if (Value.ref d==Value.none)=true then _ else _) _ _ s
 rw [if_neg (show ¬((Value.ref d==Value.none)=true) from Bool.false_ne_true)]
 refine wpAny_bind (wpAny_pure (wpAny_bind (wpAny_dictEntries ho rfl ?_)))
 rw [if_neg (by simp)]
 refine wpAny_bind (wpAny_pure (wpAny_bind (wpAny_dictEpoch ho rfl ?_)))
 rw [if_neg (by simp)]
 refine wpAny_pure ?_
 dsimp only;refine (Eq.symm (PC.trans (List.getElem?_eq_none hx)))▸?_;dsimp only
 refine wpAny_bind ?_
 first|refine wpAny_bind (wpAny_typeNameOfWhole_itemiter hT (wpAny_pure ?_))|refine wpAny_bind (wpAny_typeNameOf_itemiter hT (wpAny_pure ?_))
 show wpAny _ _ (setField (.ref it) 2 .none>>=_) _ _ s
 exact wpAny_bind (wpAny_setField hit rfl (by simp) (rL hh fun h' he=>hQ h' ((Heap.SameBut.update ..).extBut.trans he)))
end
section
variable {prog:Program}{w:World}{A:Around}{E:Value→Shared→Prop}{s:Shared}{g:Gh}{d o:Addr}{es:List DictEntry}{n i:Nat}
def xV (h:Heap)(e:DictEntry):Prop:=∃a vs,e.key=.ref a∧h.get? a=some ({cls:=.type "tuple",data:=.seq vs}:Obj)
theorem nA:∀{es:List DictEntry},(es.map (·.hash)).Nodup→∀e∈es,(es.filter (·.hash==e.hash)).length≤1
 |[],_,_,h=>by cases h
 |a::es,hn,e,he=>by
  simp only [List.map_cons,List.nodup_cons] at hn
  have none_of:∀c:Int,c∉es.map (·.hash)→es.filter (·.hash==c)=[]:=fun c hc=>by
   rw [List.filter_eq_nil_iff]
   intro b hb q
   exact hc (eq_of_beq q▸List.mem_map_of_mem hb)
  rcases List.mem_cons.mp he with rfl|he
  ·simp [List.filter_cons,none_of _ hn.1]
  ·have:(a.hash==e.hash)=false:=by
    rw [beq_eq_false_iff_ne]
    intro q
    exact hn.1 (q▸List.mem_map_of_mem he)
   rw [List.filter_cons,this]
   exact nA hn.2 e he
theorem kM {id:String}{Q:Array DictEntry→Shared→Prop}(ho:s.heap.get? o=some (cD es n))(hk:∀e∈es,xV s.heap e)(hh:(es.map (·.hash)).Nodup)(h:Q es.toArray s):
  wpAny (model prog w) A (Builtin.Dict.entriesForEmpty id o) Q E s:=by
 unfold Builtin.Dict.entriesForEmpty
 refine wpAny_bind (wpAny_dictEntries ho rfl ?_)
 refine wpAny_bind (m:=forIn es.toArray PUnit.unit _) ?_
 rw [←Array.forIn_toList]
 have loop:∀(r:List DictEntry) (R:PUnit→Shared→Prop),(∀e∈r,e∈es)→R PUnit.unit s→wpAny (model prog w) A (forIn r PUnit.unit fun e (_:PUnit)=>(do
   let q←Builtin.Dict.quietEq e.key
   if (!q)=true then
    if (es.toArray.filter (·.hash==e.hash)).size>1 then (do let _←(unsupported s!"{id}:keys-of-equal-hash" :Sem PUnit);pure (ForInStep.yield PUnit.unit)) else pure (ForInStep.yield PUnit.unit)
   else pure (ForInStep.yield PUnit.unit):Sem (ForInStep PUnit))) R E s:=by
  intro r
  induction r with
  |nil=>intro R _ hR;exact wpAny_pure hR
  |cons e r ih=>
   intro R hr hR
   refine cF (hk e (hr e (.head _))) fun a vs e1 e2=>?_
   have hf:=nA hh e (hr e (.head _))
   rw [List.forIn_cons]
   refine wpAny_bind (wpAny_bind ?_)
   rw [e1]
   show wpAny _ _ (specialOf (.ref a) "__eq__" >>=_) _ _ s
   refine wpAny_bind (wpAny_specialOf (T:= "tuple") ⟨_,e2,rfl⟩ F.slot_tuple_eq.lookup (wpAny_pure ?_))
   rw [if_pos (by decide),if_neg (by simpa using hf)]
   exact wpAny_pure (ih R (fun e he=>hr e (.tail _ he)) hR)
 exact loop es _ (fun _ h=>h) (wpAny_pure h)
theorem vG {Q:Value→Shared→Prop}{a:Value}{R:Value→Shared→Prop}
  (h:wpAny (model prog w) A.in1.in1 (Builtin.Dict.updateFrom "dict.__init__" s.heap.objs.size a [] .none)
   (fun fin s'=>match fin with|.done f=>wants (fun r s₂=>r=.none∧Q (.ref s.heap.objs.size) s₂) E (.ok f) s'|.again c'=>c'.quiet=true∧codeAny (model prog w) A.in1 c' (wants (fun r s₂=>r=.none∧Q (.ref s.heap.objs.size) s₂) E) s')
   (fun e s'=>wants (fun r s₂=>r=.none∧Q (.ref s.heap.objs.size) s₂) E (.error e) s') {s with heap:=s.heap.push (cD [] 0)}):
  wpAny (model prog w) A (call (.type "dict") [a]) Q E s:=by
 have _:=R
 refine callType_codes (Q₁:=fun obj s₁=>obj=.ref s.heap.objs.size∧s₁={s with heap:=s.heap.push (cD [] 0)}) F.kt_called_dict (F.kt_typeCall_dict_1 _) F.entry_dict_init (kt_code_dict_new _ ⟨rfl,rfl⟩) ?_
 rintro obj s₁ ⟨rfl,rfl⟩
 have hnew:(s.heap.push (cD [] 0)).get? s.heap.objs.size=some (cD [] 0):=Heap.get?_push_size _ rfl
 refine ⟨⟨_,hnew,rfl⟩,F.args_dict_init_2 _ _,?_⟩
 unfold Builtin.«dict.__init__» Builtin.Dict.selfAndRest
 refine wpAny_bind (wpAny_bind (wpAny_notOrdered_dict ⟨_,hnew,rfl⟩ ?_))
 show wpAny _ _ (pure (s.heap.objs.size,[a])) _ _ _
 exact wpAny_pure h
theorem CZ {Q:Value→Shared→Prop}(hsys:(o==sysModules)=false)(ho:s.heap.get? o=some (cD es n))(hk:∀e∈es,xV s.heap e)(hh:(es.map (·.hash)).Nodup)(hsz:es.length≤sizeLine)
  (h:∀h' n',iG s.heap h'→h'.get? s.heap.objs.size=some (cD es n')→Q (.ref s.heap.objs.size) {s with heap:=h'}):
  wpAny (model prog w) A (call (.type "dict") [.ref o]) Q E s:=by
 refine vG (R:=Q) ?_
 have hnew:(s.heap.push (cD [] 0)).get? s.heap.objs.size=some (cD [] 0):=Heap.get?_push_size _ rfl
 have ho':(s.heap.push (cD [] 0)).get? o=some (cD es n):=Heap.get?_push_of_some _ ho
 have hdo:s.heap.objs.size≠o:=Nat.ne_of_gt (Heap.lt_size ho)
 have hT:Shared.TypeIs {s with heap:=s.heap.push (cD [] 0)} (.ref o) "dict" :=⟨_,ho',rfl⟩
 have fin:∀h' n',iG s.heap h'→h'.get? s.heap.objs.size=some (cD es n')→wpAny (model prog w) A.in1.in1 (do Builtin.Dict.addKeywords s.heap.objs.size [];ret .none)
   (fun fin s'=>match fin with|.done f=>wants (fun r s₂=>r=.none∧Q (.ref s.heap.objs.size) s₂) E (.ok f) s'|.again c'=>c'.quiet=true∧codeAny (model prog w) A.in1 c' (wants (fun r s₂=>r=.none∧Q (.ref s.heap.objs.size) s₂) E) s')
   (fun e s'=>wants (fun r s₂=>r=.none∧Q (.ref s.heap.objs.size) s₂) E (.error e) s') {s with heap:=h'}:=fun h' n' he hd=>
  wpAny_bind (m:=Builtin.Dict.addKeywords _ []) (wpAny_pure (a:=PUnit.unit) (wpAny_pure ⟨rfl,h h' n' he hd⟩))
 unfold Builtin.Dict.updateFrom
 refine wpAny_bind (wpAny_typeOf hT ?_)
 rw [if_neg (by decide)]
 refine wpAny_bind ?_
 unfold Builtin.Dict.merge
 refine wpAny_bind ?_
 unfold Builtin.Dict.readDirectly
 refine wpAny_bind (wpAny_isInstance hT isSubtype_dict_dict ?_)
 simp only [Bool.not_true,Bool.false_eq_true,if_false]
 refine wpAny_bind (wpAny_specialOf hT F.slot_dict_iter.lookup (wpAny_pure ?_))
 simp only [beq_self_eq_true,if_true]
 refine wpAny_bind (wpAny_pure ?_)
 unfold Builtin.Dict.mergeDict
 rw [if_neg (by simpa using hdo)]
 unfold Builtin.Dict.showsAll
 rw [if_neg (by rw [hsys];exact Bool.false_ne_true)]
 refine wpAny_bind (wpAny_pure (wpAny_bind (wpAny_dictEntries ho' rfl ?_)))
 cases es with
 |nil=>
  rw [if_neg (show ¬((!(decide (([]:List DictEntry).toArray.size≤8) && ([]:List DictEntry).toArray.all fun e=>(keyPart e.key).isSome))=true) by simp)]
  refine wpAny_bind (wpAny_dictEpoch ho' rfl (wpAny_bind (wpAny_dictEntries ho' rfl (wpAny_bind ?_))))
  refine wpAny_of_eq (a:=PUnit.unit) (by simp) (wpAny_pure (a:=PUnit.unit) ?_)
  exact fin _ 0 bB hnew
 |cons e r=>
  have hnp:(e::r).toArray.all (fun e=>(keyPart e.key).isSome)=false:=by
   refine cF (hk e (.head _)) fun a vs e1 _=>?_
   simp [e1,keyPart]
  simp only [hnp,Bool.and_false,Bool.not_false,if_true]
  refine wpAny_bind (wpAny_dictEntries hnew rfl ?_)
  simp only [List.isEmpty_toArray,List.isEmpty_nil,if_true]
  refine wpAny_bind (kM ho' (fun e he=>let ⟨a,vs,e1,e2⟩:=hk e he;⟨a,vs,e1,Heap.get?_push_of_some _ e2⟩) hh ?_)
  rw [if_pos (by simp)]
  refine wpAny_bind (wpAny_updateDictKeysTo hnew rfl (wpAny_pure (a:=PUnit.unit) ?_) (by simp only [List.size_toArray];omega))
  have hu:=Heap.get?_update_self (Obj.mapDictKeys fun _=>(e::r).toArray) hnew rfl
  exact fin _ 1 (fun b ob h1=>(Heap.get?_update_other _ _ (Nat.ne_of_gt (Heap.lt_size h1))).trans (Heap.get?_push_of_some _ h1)) (by rw [hu];rfl)
theorem DA {l:Addr}{vs:List Value}{Q:Option Value→Shared→Prop}(hx:s.heap.get? l=some (bV vs n))(hA:A.handled=none)(h:∀h' tk,iG s.heap h'→Q none {s with heap:=h',toks:=tk}):
  wpAny (model prog w) A (getAttr? (.ref l) (Str.ofString "keys")) Q E s:=by
 obtain ⟨hp,gs,dr,tk,os⟩:=s
 replace hx:hp.get? l=some ({cls:=.type "list",dict:=none,data:=.seq vs.toArray n,slots:= #[]}:Obj):=hx
 have hT:∀tk',(⟨hp,gs,dr,tk',os⟩:Shared).TypeIs (.ref l) "list" :=fun _=>⟨_,hx,rfl⟩
 have f1:=sub_AttributeError
 have f3:=F.slot_list_getattribute.lookup
 have f4:=F.slot_list_getattribute.bind (.ref l)
 have f5:=am_list_getattr_none
 have hmiss:typeLookup (.type "list") (Str.ofString "keys")=pure none:=by rw [typeLookup_type,builtinLookup_eq_fast];kernel_rfl
 have hname:(["__module__", "__name__", "__qualname__", "__doc__", "__annotations__"]:List Str).contains (Str.ofString "keys")=false:=by decide+kernel
 have hsz:(Str.ofString "keys").length+100≤sizeLine:=by decide+kernel
 unfold getAttr? getAttrBy? getAttrBy
 repeat (any_goals (first|assumption|exact hT _|((with_reducible show wpAny _ _ (call (Value.builtin "list.__getattribute__") _ _) _ _ _);refine call_meets F.slot_list_getattribute (hT _) am_entry_list_getattribute (F.args_list_getattribute_2 _ _) (meets_getattribute_miss_list l _ n _ _ _ hmiss hname hsz) ⟨hx,hA,fun h' tk' e hx'=>?_⟩)|wp_step))
 refine bA hx'.there fun t' u' he=>?_
 show wpAny _ _ (getattributeRaised _ _ _ _ _ _ _) _ _ _
 unfold getattributeRaised
 repeat (any_goals (first|assumption|wp_step))
 exact h _ _ hx'.keeps
theorem lM:entryFor table "dict.update.loop" =some Builtin.«dict.update.loop»:=entryFor_of_fast (by kernel_rfl)
theorem vH {l:Addr}{Q:Value→Shared→Prop}(hh:A.handled=none)(hl:s.heap.get? l=some (bV [] n))
  (h:∀h' tk n',iG s.heap h'→h'.get? s.heap.objs.size=some (cD [] n')→Q (.ref s.heap.objs.size) {s with heap:=h',toks:=tk}):
  wpAny (model prog w) A (call (.type "dict") [.ref l]) Q E s:=by
 refine vG (R:=Q) ?_
 have hnew:(s.heap.push (cD [] 0)).get? s.heap.objs.size=some (cD [] 0):=Heap.get?_push_size _ rfl
 have hl':(s.heap.push (cD [] 0)).get? l=some (bV [] n):=Heap.get?_push_of_some _ hl
 have hT:Shared.TypeIs {s with heap:=s.heap.push (cD [] 0)} (.ref l) "list" :=⟨_,hl',rfl⟩
 unfold Builtin.Dict.updateFrom
 refine wpAny_bind (wpAny_typeOf hT ?_)
 rw [if_pos (by decide)]
 refine wpAny_bind (DA hl' hh fun h' tk he=>?_)
 have hl2:=he _ _ hl'
 have hd2:=he _ _ hnew
 dsimp only [Option.isNone_none,if_true]
 refine wpAny_bind (wpAny_rule (wpAny_bind (wpAny_pyIter_list ⟨_,hl2,rfl,_,rfl⟩ (wpAny_pure ⟨Code.quiet_builtin _ (by decide+kernel),?_⟩))))
 refine codeAny_builtin lM ?_
 rw [Around.under_plainId (by decide+kernel) _]
 show wpAny _ A.in1.in1 (pyNext (.ref h'.objs.size)>>=_) _ _ _
 refine wpAny_bind (wpAny_pyNext_list_end (items:=([]:List Value).toArray) hh ⟨_,Heap.get?_push_size _ rfl,rfl,rfl⟩ ⟨_,Heap.get?_push_of_some _ hl2,rfl,_,rfl⟩ (by simp) fun h₂ he₂=>?_)
 have ext₂:iG h' h₂:=fun b ob e=>he₂ b ob (Nat.ne_of_lt (Heap.lt_size e)) (Heap.get?_push_of_some _ e)
 exact wpAny_bind (m:=Builtin.Dict.addKeywords _ []) (wpAny_pure (a:=PUnit.unit) (wpAny_pure ⟨rfl,h h₂ _ 0 (fun b ob e=>ext₂ _ _ (he _ _ (Heap.get?_push_of_some _ e))) (ext₂ _ _ hd2)⟩))
end
section
variable {prog:Program}{w:World}{A:Around}{E:Value→Shared→Prop}{s:Shared}{g:Gh}{d o:Addr}{es:List DictEntry}{n i:Nat}{x y z:V}{u v:Value}
noncomputable abbrev DB (d:Addr) (n:Nat):Obj:={cls:=.type "dict_keyiterator",data:=.fields #[.ref d,.int 0 0,.int ([]:List DictEntry).length 0,.int n 0]}
theorem DC {Q:Bool→Shared→Prop}(hT:s.TypeIs (.ref d) "dict") (h:Q false s):wpAny (model prog w) A (Builtin.List.listLengthHint (.ref d)) Q E s:=by
 unfold Builtin.List.listLengthHint
 refine wpAny_bind (wpAny_specialOf hT F.slot_dict_len.lookup ?_)
 generalize hid:("dict.__len__" :String)=id0
 wp_delta
 refine (Eq.symm (show splitId id0=some ("dict", "__len__") from by subst hid;decide+kernel))▸?_
 subst hid
 refine wpAny_bind (wpAny_isInstance (b:=true) hT isSubtype_dict_dict ?_)
 rw [if_neg (by decide)]
 wp_delta
 repeat (any_goals (first|assumption|wp_step))
theorem qS {Q:List Value→Shared→Prop}(hh:A.handled=none)(hsys:(d==sysModules)=false)(ho:s.heap.get? d=some (cD [] n))(h:∀h',iG s.heap h'→Q [] {s with heap:=h'}):
  wpAny (model prog w) A (collect (.ref d)) Q E s:=by
 unfold collect
 refine wpAny_bind (wpAny_runValue (codeAny_builtin F.entry_proto_collect ?_))
 refine (Eq.symm (Around.under_plainId F.plain_proto_collect _))▸?_
 show wpAny _ A.in1 (newList []>>=fun l=>again (.builtin "list.__iadd__" ⟨[l,.ref d],[]⟩)) _ _ s
 refine wpAny_bind (wpAny_newObj_type (wpAny_pure ⟨plainId_quiet F.plain_list_iadd _,codeAny_builtin F.entry_list_iadd ?_⟩))
 refine (Eq.symm (Around.under_plainId F.plain_list_iadd _))▸?_
 show wpAny _ A.in1 (Builtin.List.listExtendWith (.ref s.heap.objs.size) (.ref d) (.ref s.heap.objs.size)) _ _ _
 have hne:d≠s.heap.objs.size:=Nat.ne_of_lt (Heap.lt_size ho)
 have ho1:(s.heap.push (bV [] 0)).get? d=some (cD [] n):=Heap.get?_push_of_some _ ho
 have hS1:(s.heap.push (bV [] 0)).get? s.heap.objs.size=some (bV [] 0):=Heap.get?_push_size _ rfl
 have hT1:Shared.TypeIs {s with heap:=s.heap.push (bV [] 0)} (.ref d) "dict" :=⟨_,ho1,rfl⟩
 unfold Builtin.List.listExtendWith
 refine wpAny_bind (wpAny_typeOf hT1 ?_)
 have h1:Builtin.List.listSameRef (.ref s.heap.objs.size) (.ref d)=false:=by simp [Builtin.List.listSameRef,Ne.symm hne]
 rw [if_neg (by rw [h1];decide)]
 have hz1:(s.heap.push (bV [] 0)).objs.size=s.heap.objs.size+1:=Heap.size_push ..
 refine wpAny_bind (rK hsys ho1 ?_)
 refine wpAny_bind (wpAny_holding (DC ⟨_,Heap.get?_push_of_some _ ho1,rfl⟩ ?_))
 show wpAny _ A.in1 (rule "list.extend.makes-room" >>=fun _=>Builtin.List.listTouch (.ref s.heap.objs.size)>>=fun _=>
  again (.builtin "list.extend.loop" ⟨[.ref s.heap.objs.size,.ref (s.heap.push (bV [] 0)).objs.size,.ref s.heap.objs.size],[]⟩)) _ _ {s with heap:=(s.heap.push (bV [] 0)).push (DB d n)}
 have hS2:=Heap.get?_push_of_some (h:=s.heap.push (bV [] 0)) (DB d n) hS1
 have hd2:=Heap.get?_push_of_some (h:=s.heap.push (bV [] 0)) (DB d n) ho1
 have hI2:=Heap.get?_push_size (s.heap.push (bV [] 0)) (o:=(DB d n)) rfl
 have hk2:iG s.heap ((s.heap.push (bV [] 0)).push (DB d n)):=fun _ _ e=>Heap.get?_push_of_some _ (Heap.get?_push_of_some _ e)
 generalize (s.heap.push (bV [] 0)).push (DB d n)=h2 at hS2 hd2 hI2 hk2
 refine wpAny_bind (wpAny_rule (wpAny_bind ?_))
 show wpAny _ A.in1 (updateSeq s.heap.objs.size (·.push .none)>>=fun _=>updateSeq s.heap.objs.size (·.pop)) _ _ _
 refine wpAny_bind (wpAny_updateSeq hS2 rfl ?_)
 have hS3:=Heap.get?_update_self (Obj.mapSeq (·.push Value.none)) hS2 rfl
 refine wpAny_updateSeq hS3 rfl ?_
 have hS4:=Heap.get?_update_self (Obj.mapSeq (·.pop)) hS3 rfl
 have oth:∀b o,b≠s.heap.objs.size→h2.get? b=some o→((h2.update s.heap.objs.size (Obj.mapSeq (·.push Value.none))).update s.heap.objs.size (Obj.mapSeq (·.pop))).get? b=some o:=
  fun b o hb e=>(Heap.get?_update_other _ _ (Ne.symm hb)).trans ((Heap.get?_update_other _ _ (Ne.symm hb)).trans e)
 refine wpAny_pure ⟨plainId_quiet F.plain_extend_loop _,codeAny_builtin F.entry_extend_loop ?_⟩
 refine (Eq.symm (Around.under_plainId F.plain_extend_loop _))▸?_
 show wpAny _ A.in1 (pyNext (.ref (s.heap.push (bV [] 0)).objs.size)>>=_) _ _ _
 have hne2:(s.heap.push (bV [] 0)).objs.size≠s.heap.objs.size:=by refine (Eq.symm hz1)▸?_;exact Nat.succ_ne_self _
 refine wpAny_bind (AN (es:=[]) (i:=0) hh ⟨_,oth _ _ hne2 hI2,rfl,rfl⟩ (oth _ _ hne hd2) (Nat.zero_le _) fun h3 he3=>wpAny_pure ?_)
 have hS5:=he3 _ _ (Ne.symm hne2) hS4
 show wpAny _ A (load s.heap.objs.size>>=_) _ _ _
 refine wpAny_bind (wpAny_load hS5 (wpAny_pure ?_))
 refine h h3 fun b ob e=>?_
 have hlt:=Heap.lt_size e
 exact he3 _ _ (by refine (Eq.symm hz1)▸?_;exact Nat.ne_of_lt (Nat.lt_succ_of_lt hlt)) (oth _ _ (Nat.ne_of_lt hlt) (hk2 _ _ e))
theorem tG {Q:Value→Shared→Prop}(hh:A.handled=none)(hsys:(d==sysModules)=false)(ho:s.heap.get? d=some (cD [] n))
  (h:∀h' hm a,iG s.heap h'→iG s.heap hm→hm.objs.size≤a→(∃k,h'.get? a=some (bV [] k))→Q (.ref a) {s with heap:=h'}):
  wpAny (model prog w) A (call (.builtin "sorted") [.ref d]) Q E s:=by
 refine Calls.call_function_entry kind_sorted plain_sorted entry_sorted (args_sorted1 _) ?_
 unfold Builtin.«sorted»
 refine wpAny_bind (m:=checkCount "sorted" 1 1 _) (wpAny_pure (wpAny_bind (qS hh hsys ho fun h1 he=>wpAny_bind (wpAny_newList ?_))))
 have hL:(h1.push (bV [] 0)).get? h1.objs.size=some (seqObj "list" ([]:List Value).toArray 0):=Heap.get?_push_size _ rfl
 refine wpAny_bind (wpAny_holding (wpAny_call_entry slot_list_sort ⟨_,hL,rfl⟩ entry_list_sort (list_sort_tree hL .nil (by decide) fun out ns' a1 a2 a3=>⟨_,rfl,?_⟩) (args_list_sort _)))
 have e0:out= #[]:=by
  have:ns'=[]:=by simpa using a2
  subst this
  generalize hq:out.toList=q at a1
  cases a1
  simpa using hq
 subst e0
 refine wpAny_pure ⟨_,rfl,?_⟩
 have hlt:h1.objs.size<(h1.push (bV [] 0)).objs.size:=by rw [Heap.size_push];omega
 unfold sortedHeap
 have e1:=Heap.get?_update_self (Obj.mapSeq fun _=>(#[]:Array Value)) hL rfl
 refine h _ h1 h1.objs.size (fun b ob e=>?_) he (Nat.le_refl _) ⟨_,Heap.get?_update_self (Obj.mapSeq fun _=>(#[]:Array Value)) (Heap.get?_push_of_some _ (Heap.get?_push_of_some _ e1)) rfl⟩
 have hb:=Ne.symm (Nat.ne_of_lt (Heap.lt_size (he _ _ e)))
 exact (Heap.get?_update_other _ _ hb).trans (Heap.get?_push_of_some _ (Heap.get?_push_of_some _ ((Heap.get?_update_other _ _ hb).trans (Heap.get?_push_of_some _ (he _ _ e)))))
end
section
variable {prog:Program}{w:World}{A:Around}{E:Value→Shared→Prop}{s:Shared}{g:Gh}{d a:Addr}{l:List (V×V)}{es:List DictEntry}{k y:V}{n:Nat}{β:Type}{q:Option V→Option β}{z:β}
theorem lN {α β:Type}(f:α→β):∀(l:List α) (i:Nat),(l.map f).eraseIdx i=(l.eraseIdx i).map f
 |[],_=>rfl
 |a::l,0=>rfl
 |a::l,i+1=>congrArg (f a:: ·) (lN f l i)
section
variable {w':List (V×V)}(hg:lF g s)(ho:s.heap.get? d=some (cD es n))(hr:hM w.params g es l)(hn:(l.map (·.1)).Nodup)(hk:Rp w.params g (.ref a) k)(hkk:cC k=true)(hsz:l.length≤sizeLine)(hw:sS k l=some w')
include hg ho hr hn hk hkk hsz hw
theorem tH {Q:Option DictEntry→Shared→Prop}(hu:A.units+64<cLine)(hz:fW k q l=some z)
  (h0:∀tk,q none=some z→w'=l→Q none {s with toks:=tk})
  (h1:∀h' tk es' n' e x,q (some x)=some z→Rp w.params g e.val x→Heap.SameBut d s.heap h'→h'.get? d=some (cD es' n')→hM w.params g es' w'→Q (some e) {s with heap:=h',toks:=tk}):
  wpAny (model prog w) A (Builtin.Dict.takeOut d (.ref a)) Q E s:=by
 refine aD (xR (prog:=prog) hr) fun xs hx af8=>?_;subst af8
 have hkey:(dV prog w).is s.heap k a:=⟨Rp.mono hk hg,hkk⟩
 have hnx:(xs.map (·.1)).Nodup:=by rw [fZ hx];exact hn
 have hlen:xs.length=l.length:=by rw [←List.length_map (f:=(·.1)),fZ hx,List.length_map]
 refine eT (AM hx hn hw) fun _ d2 d3=>?_
 unfold Builtin.Dict.takeOut
 try with_reducible refine wpAny_holding ?_
 refine wpAny_bind ((dV prog w).pyHash hu hkey ?_)
 refine wpAny_bind (wpAny_dictFind_heap (knd:=dV prog w) (s:={s with toks:=s.toks+(dV prog w).draws k}) (xs:=xs) hu hkey ho rfl (by simp) (GX hg hx) hnx ?_ ?_)
 ·intro hno
  have e:=PySem.atKey_none_of_get hno
  exact wpAny_pure (lL (fun b v y e1 _ _=>by rw [e] at e1;cases e1) (fun _ hq=>h0 _ hq (d2 e)) hx hz)
 ·intro j p hj
  refine wpAny_bind (wpAny_dictEntries (s:={s with toks:=s.toks+(dV prog w).draws k}) ho rfl ?_)
  have hat:(xs.map (entryOfKey (dV prog w))).toArray[j]? =some (entryOfKey (dV prog w) (k,p)):=by simp [hj]
  rw [hat]
  have hsz':(xs.map (entryOfKey (dV prog w))).toArray.size≤sizeLine:=by rw [List.size_toArray,List.length_map,hlen];exact hsz
  refine wpAny_bind (wpAny_updateDictKeys (hz:=hsz') (s:={s with toks:=s.toks+(dV prog w).draws k}) ho rfl (wpAny_pure ?_))
  have hu:=Heap.get?_update_self (Obj.mapDictKeys (·.eraseIdxIfInBounds j)) ho rfl
  have e2:=PySem.atKey_of_get hnx hj
  refine lL (fun b v x e1 rv hq=>?_) (fun e1 _=>?_) hx hz
  ·rw [e2] at e1;cases e1
   exact h1 _ _ ((xs.eraseIdx j).map (entryOfKey (dV prog w))) (n+1) _ x hq rv (Heap.SameBut.update ..) (by rw [hu];simp [Obj.mapDictKeys];exact lN _ _ _) (xS (d3 j _ hj))
  ·rw [e2] at e1;cases e1
theorem HB {dflt:Value}{K:V→Option β}{Q:Value→Shared→Prop}(hu:A.units+66<cLine)(hsys:(d==sysModules)=false)(hd:Rp w.params g dflt y)(hz:fW k (fun o=>K (o.getD y)) l=some z)
  (h:∀h' tk es' n' r x,K x=some z→Rp w.params g r x→Heap.SameBut d s.heap h'→h'.get? d=some (cD es' n')→hM w.params g es' w'→Q r {s with heap:=h',toks:=tk}):
  wpAny (model prog w) A (call (.builtin "dict.pop") [.ref d,.ref a,dflt]) Q E s:=by
 have main:MeetsIn prog w (Builtin.«dict.pop» ⟨[.ref d,.ref a,dflt],[]⟩) (fun A' R s'=>s'=s∧A'.units+65<cLine∧
   (∀h' tk es' n' r x,K x=some z→Rp w.params g r x→Heap.SameBut d s.heap h'→h'.get? d=some (cD es' n')→hM w.params g es' w'→R (.ok (.ret r)) {s with heap:=h',toks:=tk})):=
  .of_wp fun A' R s' ⟨e,hu',hR⟩=>by
   subst e
   have hu'':A'.in1.units+64<cLine:=by show A'.units+1+64<cLine;omega
   unfold Builtin.«dict.pop»
   refine wpAny_bind ?_
   unfold Builtin.Dict.keyAndDefault
   refine wpAny_bind (wpAny_notOrdered_dict ⟨_,ho,rfl⟩ ?_)
   show wpAny _ _ (pure (d,Value.ref a,some dflt)) _ _ s'
   refine wpAny_pure ?_
   dsimp only [show (keyPart (.ref a)).isSome=false from rfl,Bool.false_eq_true,if_false]
   refine wpAny_bind (m:=dictEntries d) (wpAny_dictEntries ho rfl (wpAny_bind (wpAny_pure ?_)))
   cases he:es.toArray.isEmpty with
   |true=>
    have e0:es=[]:=by simpa using he
    subst e0
    cases l with
    |cons p l=>refine iZ hr fun _ _ _ q _=>?_;cases q
    |nil=>
     cases hw
     simp only [if_true]
     refine wpAny_bind (wpAny_rule (wpAny_bind (wpAny_pure ?_)))
     dsimp only [Option.isNone_none,if_true]
     refine wpAny_bind (wpAny_missedRemoval_other hsys ?_)
     exact wpAny_bind (wpAny_rule (wpAny_pure ⟨_,rfl,hR s'.heap s'.toks [] n _ _ hz hd (Heap.SameBut.refl ..) ho rfl⟩))
   |false=>
    simp only [Bool.false_eq_true,if_false]
    refine wpAny_bind (tH hg ho hr hn hk hkk hsz hw hu'' hz (fun tk hq e=>?_) fun h' tk es' n' e x hq hv hs hd' hr'=>?_)
    ·subst e
     dsimp only [Option.isNone_none,if_true]
     refine wpAny_bind (wpAny_missedRemoval_other hsys ?_)
     exact wpAny_bind (wpAny_rule (wpAny_pure ⟨_,rfl,hR s'.heap tk es n _ _ hq hd (Heap.SameBut.refl ..) ho hr⟩))
    ·dsimp only [Option.isNone_some,Bool.false_eq_true,if_false]
     exact wpAny_bind (wpAny_letGo (wpAny_pure ⟨_,rfl,hR h' tk es' n' _ _ hq hv hs hd' hr'⟩))
 exact call_meetsIn F.slot_dict_pop ⟨_,ho,rfl⟩ F.entry_dict_pop (F.args_dict_pop_3 _ _ _) main ⟨rfl,Nat.lt_of_succ_lt (by assumption),h⟩
end
end
section
variable {β:Type}{z:β}{x y:V}{k:V→Option β}
theorem DD {o:BO}(h:cL o x y k=some z):∃v,k v=some z:=by
 cases o with
 |add=>exact rC (M:=fun _ _=>∃v,k v=some z) h (fun _ _ q=>⟨_,q⟩) (fun _ _ _ q=>⟨_,q⟩) fun _ _ _ q=>⟨_,q⟩
 |sub=>exact rD (M:=fun _ _=>∃v,k v=some z) h (fun _ _ q=>⟨_,q⟩) fun _ _ q=>⟨_,q⟩
 |mul=>exact rE (M:=fun _ _=>∃v,k v=some z) h (fun _ _ _ q=>⟨_,q⟩) fun _ _ _ _ q=>⟨_,q⟩
 |fdiv=>exact oZ (M:=fun _ _=>∃v,k v=some z) h fun _ _ _ _ q=>⟨_,q⟩
 |mod=>exact rF (M:=fun _ _=>∃v,k v=some z) h fun _ _ _ q=>⟨_,q⟩
 |pow=>exact rH (M:=fun _ _=>∃v,k v=some z) h fun _ _ _ _ q=>⟨_,q⟩
theorem DE {o:CO}(h:bK o x y k=some z):∃v,k v=some z:=by
 cases o with
 |eq=>exact lH (M:=fun _ _=>∃v,k v=some z) (show (qN x y fun t=>k (.bool t))=some z from h) (fun _ _ q=>⟨_,q⟩) fun _ _ _ _ _ _ q=>⟨_,q⟩
 |ne=>exact lH (M:=fun _ _=>∃v,k v=some z) (show (qN x y fun t=>k (.bool (not t)))=some z from h) (fun _ _ q=>⟨_,q⟩) fun _ _ _ _ _ _ q=>⟨_,q⟩
 |lt=>exact dC (M:=fun _ _=>∃v,k v=some z) (show (qO x y fun t=>k (.bool t))=some z from h) fun _ _ q=>⟨_,q⟩
 |gt=>exact dC (M:=fun _ _=>∃v,k v=some z) (show (qO y x fun t=>k (.bool t))=some z from h) fun _ _ q=>⟨_,q⟩
 |le=>exact dC (M:=fun _ _=>∃v,k v=some z) (show (qO y x fun t=>k (.bool (not t)))=some z from h) fun _ _ q=>⟨_,q⟩
 |ge=>exact dC (M:=fun _ _=>∃v,k v=some z) (show (qO x y fun t=>k (.bool (not t)))=some z from h) fun _ _ q=>⟨_,q⟩
theorem rM {n:Nat}(h:vD x n k=some z):∃v,k v=some z:=by
 cases x with
 |tup l=>refine aD (aO (aA h).2) fun v _ q=>?_;exact ⟨v,q⟩
 |lst l=>refine aD (aO (aA h).2) fun v _ q=>?_;exact ⟨v,q⟩
 |_=>exact no h
theorem rN {l:List V}{i:Int}(h:OJ l i k=some z):∃v,k v=some z:=by
 cases i with
 |ofNat n=>refine aD (aO (aA h).2) fun v _ q=>?_;exact ⟨v,q⟩
 |negSucc n=>refine aD (aO (aA (aA h).2).2) fun v _ q=>?_;exact ⟨v,q⟩
theorem iI {l:List (V×V)}{q:Option V→Option β}(h:fW x q l=some z):∃o,q o=some z:=by
 induction l with
 |nil=>exact ⟨_,h⟩
 |cons p l ih=>
  refine aD (aO (show (iH 8 p.1 x).bind (fun t=>cond t (q (some p.2)) (fW x q l))=some z from h)) fun c _ e=>?_
  cases c with
  |true=>exact ⟨_,e⟩
  |false=>exact ih e
theorem xW (h:oU x y k=some z):∃v,k v=some z:=by
 cases x with
 |lst l=>cases y with
  |int i=>exact rN h
  |_=>exact no h
 |tup l=>cases y with
  |int i=>cases i with
   |ofNat n=>exact rM (x:=.tup l) (n:=n) h
   |negSucc n=>exact no h
  |_=>exact no h
 |dct l=>
  obtain ⟨o,e⟩:=iI (aA h).2
  cases o with
  |some v=>exact ⟨v,e⟩
  |none=>exact no e
 |_=>exact no h
theorem HD {b:B1}(h:hJ b x k=some z):∃v,k v=some z:=by
 cases b with
 |len=>cases x with
  |lst l=>exact ⟨_,(aA h).2⟩
  |tup l=>exact ⟨_,(aA h).2⟩
  |_=>exact no h
 |abs=>cases x with
  |int l=>exact ⟨_,h⟩
  |_=>exact no h
 |tuple=>cases x with
  |lst l=>exact ⟨_,(aA h).2⟩
  |_=>exact no h
 |list=>cases x with
  |lst l=>exact ⟨_,(aA h).2⟩
  |tup l=>exact ⟨_,(aA h).2⟩
  |_=>exact no h
 |sum=>cases x with
  |lst l=>refine aD (aO (aA h).2) fun v _ q=>?_;exact ⟨_,q⟩
  |_=>exact no h
theorem HE {b:B2}(h:AF b x y k=some z):∃v,k v=some z:=by
 cases b with
 |min=>exact dC (M:=fun _ _=>∃v,k v=some z) (show (qO y x fun t=>k (cond t y x))=some z from h) fun _ _ q=>⟨_,q⟩
 |max=>exact dC (M:=fun _ _=>∃v,k v=some z) (show (qO x y fun t=>k (cond t y x))=some z from h) fun _ _ q=>⟨_,q⟩
theorem rO {m n:Int}{k:List V→Option β}(h:xN m n k=some z):∃l,k l=some z:=⟨_,(aA (aA (aA (aA h).2).2).2).2⟩
end
section
variable {C:CF}{G:List V}
theorem hZ {β:Type}:∀{n:Nat} {σ:Fm} {f:Fm→Option β} {z:β},fE n σ f=some z→σ.length=n∧f σ=some z:=fun {n}=>by
 induction n with
 |zero=>intro σ f z h;cases σ with
  |nil=>exact ⟨rfl,h⟩
  |cons _ _=>exact no h
 |succ n ih=>intro σ f z h;cases σ with
  |nil=>exact no h
  |cons s r=>refine aF (ih (f:=fun t=>f (s::t)) h) fun e q=>?_;exact ⟨congrArg (· +1) e,q⟩
abbrev ES (C:CF) (G:List V) (e:E):Prop:=∀{β:Type} {ρ:Fm} {k:V→Fm→Option β} {z:β},kE C G e β ρ k=some z→∃v ρ',k v ρ'=some z
theorem HF {β:Type}{s:aE}{f:List V→Option β}{g:List (V×V)→Option β}{z:β}(h:(match (generalizing:=false) s with|.l xs=>f xs|.d kvs=>g kvs|_=>none)=some z):(∃xs,s=.l xs∧f xs=some z)∨∃kvs,s=.d kvs∧g kvs=some z:=by
 cases s with
 |l xs=>exact .inl ⟨xs,rfl,h⟩
 |d xs=>exact .inr ⟨xs,rfl,h⟩
 |_=>exact no h
theorem PD {β:Type}{s:aE}{f:List V→Option β}{z:β}(h:(match (generalizing:=false) s with|.l xs=>f xs|_=>none)=some z):∃xs,s=.l xs∧f xs=some z:=by
 cases s with
 |l xs=>exact ⟨xs,rfl,h⟩
 |_=>exact no h
theorem vI {β:Type}{s:aE}{f:List (V×V)→Option β}{z:β}(h:(match (generalizing:=false) s with|.d xs=>f xs|_=>none)=some z):∃xs,s=.d xs∧f xs=some z:=by
 cases s with
 |d xs=>exact ⟨xs,rfl,h⟩
 |_=>exact no h
theorem abF {β:Type}{s:aE}{f:V→Option β}{z:β}(h:(match (generalizing:=false) s with|.v xs=>f xs|_=>none)=some z):∃xs,s=.v xs∧f xs=some z:=by
 cases s with
 |v xs=>exact ⟨xs,rfl,h⟩
 |_=>exact no h
theorem gY {β:Type}{s:V}{f:Int→Option β}{z:β}(h:(match (generalizing:=false) s with|.int i=>f i|_=>none)=some z):∃i,s=.int i∧f i=some z:=by
 cases s with
 |int xs=>exact ⟨xs,rfl,h⟩
 |_=>exact no h
theorem WC {β:Type}{s:V}{f:Nat→Option β}{z:β}(h:(match (generalizing:=false) s with|.str i=>f i|_=>none)=some z):∃i,s=.str i∧f i=some z:=by
 cases s with
 |str xs=>exact ⟨xs,rfl,h⟩
 |_=>exact no h
theorem xX {β:Type}{s:V}{f:List V→Option β}{z:β}(h:(match (generalizing:=false) s with|.lst i=>f i|_=>none)=some z):∃i,s=.lst i∧f i=some z:=by
 cases s with
 |lst xs=>exact ⟨xs,rfl,h⟩
 |_=>exact no h
mutual
theorem aX:∀(e:E),ES C G e
 |.bad=>fun h=>no h
 |.none=>fun h=>(bM _ _ h)
 |.bool _=>fun h=>(bM _ _ h)
 |.int _=>fun h=>(bM _ _ h)
 |.str _=>fun h=>(bM _ _ h)
 |.var i=>fun h=>aD (abF (s:=Fm.at _ i) h) fun x _ q=>(bM x _ q)
 |.frz i=>fun h=>(HF (s:=Fm.at _ i) h).elim (fun g=>aD g fun _ _ q=>bM _ _ q) fun g=>aD g fun _ _ q=>bM _ _ q
 |.glob g=>fun h=>aD (aO h) fun x _ q=>bM x _ q
 |.bin _ a b=>fun h=>bA (aX a h) fun _ _ h=>bA (aX b h) fun _ _ h=>Exists.elim (DD h) fun v q=>bM v _ q
 |.neg a=>fun h=>bA (aX a h) fun _ _ h=>aD (gY h) fun _ _ q=>bM _ _ q
 |.not a=>fun h=>bA (aX a h) fun x _ h=>dU (M:=fun _=>_) h fun _ q=>bM _ _ q
 |.cmp _ a b=>fun h=>bA (aX a h) fun _ _ h=>bA (aX b h) fun _ _ h=>Exists.elim (DE h) fun v q=>bM v _ q
 |.isN a=>fun h=>bA (aX a h) fun _ _ h=>bM _ _ h
 |.inS _ a _=>fun h=>bA (aX a h) fun _ _ h=>aD (WC h) fun _ _ q=>bM _ _ q
 |.and _=>fun h=>aD (aO (aA h).2) fun v _ q=>(bM v _ q)
 |.or _=>fun h=>aD (aO (aA h).2) fun v _ q=>(bM v _ q)
 |.ite t _ _=>fun h=>bA (aX t (aA h).2) fun _ _ h=>dU (M:=fun _=>_) h fun _ q=>aD (aO q) fun v _ q=>bM v _ q
 |.tup es=>fun h=>bA (iA es h) fun _ _ h=>bM _ _ h
 |.lst es=>fun h=>bA (iA es h) fun _ _ h=>bM _ _ h
 |.dct0=>fun h=>(bM _ _ h)
 |.dct1 a b=>fun h=>bA (aX a h) fun _ _ h=>bA (aX b h) fun _ _ h=>⟨_,_,(aA h).2⟩
 |.subN a _=>fun h=>bA (aX a h) fun _ _ h=>Exists.elim (rM h) fun v q=>bM v _ q
 |.sub a i=>fun h=>bA (aX a h) fun _ _ h=>bA (aX i h) fun _ _ h=>Exists.elim (xW h) fun v q=>bM v _ q
 |.subO n i=>fun h=>bA (aX i (aA h).2) fun _ _ h=>aD (PD (s:=Fm.at _ n) h) fun _ _ h=>aD (gY h) fun _ _ h=>Exists.elim (rN h) fun v q=>bM v _ q
 |.slcLo a i=>fun h=>bA (aX a h) fun _ _ h=>bA (aX i h) fun _ _ h=>aD (aO h) fun v _ q=>bM v _ q
 |.slcHi a i=>fun h=>bA (aX a h) fun _ _ h=>bA (aX i h) fun _ _ h=>aD (aO h) fun v _ q=>bM v _ q
 |.call _ es=>fun h=>bA (iA es h) fun _ _ h=>aD (aO h) fun _ _ q=>bM _ _ q
 |.callO _ n es=>fun h=>bA (iA es (aA h).2) fun _ _ h=>(HF (s:=Fm.at _ n) h).elim (fun g=>aD g fun _ _ h=>aD (aO h) fun _ _ q=>bM _ _ q) fun g=>aD g fun _ _ h=>aD (aO h) fun _ _ q=>bM _ _ q
 |.bi1 _ a=>fun h=>bA (aX a h) fun _ _ h=>Exists.elim (HD h) fun v q=>bM v _ q
 |.bi2 _ a b=>fun h=>bA (aX a h) fun _ _ h=>bA (aX b h) fun _ _ h=>Exists.elim (HE h) fun v q=>bM v _ q
 |.dget n a b=>fun h=>bA (aX a (aA h).2) fun _ _ h=>bA (aX b h) fun _ _ h=>aD (vI (s:=Fm.at _ n) h) fun _ _ h=>Exists.elim (iI (aA h).2) fun _ q=>bM _ _ q
 |.dpop n a b=>fun h=>bA (aX a (aA h).2) fun _ _ h=>bA (aX b h) fun _ _ h=>aD (vI (s:=Fm.at _ n) h) fun _ _ h=>Exists.elim (iI (aA (aA h).2).2) fun _ q=>aD (aO q) fun _ _ q=>bM _ _ q
 |.comp nv s ifs elt=>fun h=>by
  have fin:∀{β:Type} {z:β} {c:Bool} {a b:Option β},cond c a b=some z→a=some z∨b=some z:=fun {β z c a b} h=>by cases c with|true=>exact .inl h|false=>exact .inr h
  rcases fin h with h|h
  ·refine bA (vJ s h) fun _ _ h=>?_
   refine aD (aO h) fun _ _ h=>?_
   exact (bM _ _ ((aA (aA h).2).2))
  ·refine bA (vJ s h) fun _ _ h=>?_
   refine aD (aO h) fun _ _ h=>?_
   exact (bM _ _ ((hZ (aA h).2).2))
 |.rank a=>fun h=>bA (aX a h) fun _ _ h=>aD (aO h) fun v _ q=>bM v _ q
theorem iA:∀(es:List E) {β:Type} {ρ:Fm} {k:List V→Fm→Option β} {z:β},bW C G es β ρ k=some z→∃v ρ',k v ρ'=some z
 |[]=>fun h=>(bM _ _ h)
 |e::r=>fun h=>bA (aX e h) fun _ _ h=>bA (iA r h) fun _ _ h=>bM _ _ h
theorem vJ:∀(s:Sr) {β:Type} {ρ:Fm} {k:List V→Fm→Option β} {z:β},gJ C G s β ρ k=some z→∃v ρ',k v ρ'=some z
 |.val a=>fun h=>bA (aX a h) fun _ _ h=>aD (aO h) fun _ _ q=>bM _ _ q
 |.rng1 a=>fun h=>bA (aX a h) fun _ _ h=>aD (gY h) fun _ _ h=>Exists.elim (rO h) fun _ q=>bM _ _ q
 |.rng2 a b=>fun h=>bA (aX a h) fun _ _ h=>bA (aX b h) fun _ _ h=>aD (gY h) fun _ _ h=>aD (gY h) fun _ _ h=>Exists.elim (rO h) fun _ q=>bM _ _ q
 |.enm a=>fun h=>bA (aX a h) fun _ _ h=>aD (xX h) fun _ _ q=>bM _ _ q
 |.itm n=>fun h=>aD (vI (s:=Fm.at _ n) h) fun _ _ q=>(bM _ _ q)
 |.srtE n=>fun h=>by
  refine aD (vI (s:=Fm.at _ n) h) fun l _ q=>?_
  cases l with
  |nil=>exact (bM _ _ q)
  |cons _ _=>exact no q
end
end
section
variable {K:Ct}{ns:dL}{Γ:cZ}
theorem abG (K:Ct):K.A.units+64<cLine:=by have:=K.hu;lia
theorem HG (K:Ct):K.A.units+66<cLine:=by have:=K.hu;lia
abbrev mI {K:Kx} (B:Bs K) (σ:Pt):lF (gS B σ) σ.s:=fun _ _ g=>g.1
noncomputable def WD:E→Nat
 |.bad=>0
 |.comp ..=>1
 |.tup _=>2
 |_=>3
noncomputable def bc (e:E):Bool:=Nat.ble (WD e) 1
noncomputable def bt (e:E):Bool:=Nat.ble (WD e) 2
structure bX (K:Ct)(ns:dL)(Γ:cZ)(e:E)(pe:Expr):Prop where
 ev:bC K ns Γ e pe
 t:gW K ns Γ e pe
 px:e=.bad∨PX pe
 sw:bc e=true∨∀t l env,swapsWith pe t l env=pure false
 un:bt e=true∨∀ts k p l env,swapsWithSole [.Tuple ts k p] pe l env=pure false∧swappedStores [.Tuple ts k p] pe env=pure none
def PlT (pe:Expr):Prop:=∀{M A env} {whole:Sem Value} {Q E s},wpAny M A whole (fun v s₁=>wpAny M A (truthy v) Q E s₁) E s→wpAny M A (isTrue pe env whole) Q E s
theorem PE {B:cU K ns Γ}{σ:Pt}{pu:Bool}{β:Type}{k:V→Fm→Option β}{z:β}{Q:Bool→Shared→Prop}{E:Value→Shared→Prop}(hb:∀x ρ,k x ρ=some z→∃t,x=.bool t)(hp:∀σ' t,cV B.toBs pu σ σ'→k (.bool t) σ'.ρ=some z→Q t σ'.s):
  ∀σ' v x,cV B.toBs pu σ σ'→Vl B.toBs σ' v x→k x σ'.ρ=some z→wpAny K.M K.A (truthy v) Q E σ'.s:=fun σ' v x G r hk=>by
 refine aR (hb x _ hk) fun t agA=>?_;subst agA
 exact tB r (hp σ' t G hk)
theorem lO {β:Type}{f:Bool→Fm→Option β}{z:β}(x:V)(ρ:Fm)(h:(dG x fun t=>f t ρ)=some z):∃t,x=.bool t:=dU (M:=fun x=>∃t,x=.bool t) h fun t _=>⟨t,rfl⟩
theorem bX.pl {e:E}{pe:Expr}(h:bC K ns Γ e pe)(t:PlT pe)(p:PX pe)(sw:bc e=true∨∀t l env,swapsWith pe t l env=pure false)(un:bt e=true∨∀ts k p l env,swapsWithSole [.Tuple ts k p] pe l env=pure false∧swappedStores [.Tuple ts k p] pe env=pure none):bX K ns Γ e pe:=
 ⟨h,fun B σ β k z Q E hb S hev hp=>t (h B σ β k z _ E S hev (PE hb hp)),.inr p,sw,un⟩
theorem bX.bad {pe:Expr}:bX K ns Γ .bad pe:=⟨ON,fun _ _ _ _ _ _ _ _ _ hev _=>(nomatch hev),.inl rfl,.inl rfl,.inl rfl⟩
theorem bX.plain {e:E}{pe:Expr}(h:bX K ns Γ e pe){C:CF}{β:Type}{ρ:Fm}{k:V→Fm→Option β}{z:β}(hev:kE C Internal.glb e β ρ k=some z):PX pe:=h.px.elim (fun q=>by subst q;exact no hev) id
structure arY (K:Ct)(ns:dL)(Γ:cZ)(es:List E)(pes:List Expr):Prop where
 all:jY K ns Γ es pes
 len:pes.length=es.length
theorem xY:jY K ns Γ [] []:=fun _ _ _ _ _ _ _ _ S hev hp=>args_nil (hp _ [] [] (.here S _) rfl rfl hev)
theorem vK {e:E}{r:List E}{p:Expr}{t:List Expr}(he:bX K ns Γ e p)(hr:jY K ns Γ r t):jY K ns Γ (e::r) (p::t):=fun B σ β k z Q E pos S hev hp=>
 args_cons (he.ev B σ β _ z _ E S hev fun σ1 v1 x1 g1 r1 k1=>hr B σ1 β _ z _ E pos g1.S k1 fun σ2 vs xs g2 r2 hl k2=>hp σ2 _ _ (g1.trans g2) (.cons (r1.mono g2.g) r2) (congrArg (· +1) hl) k2) (bH (he.plain hev) _ _)
theorem PF {a p pos}(ha:bC K ns Γ a p):bC K ns Γ (.neg a) (.UnaryOp .USub p pos):=fun B σ β k z Q E S hev hp=>
 wpAny_UnaryOp (ha B σ β _ z _ E S hev fun σ1 v1 x1 g1 r1 k1=>by
  cases x1 with
  |int i=>obtain ⟨_,rfl⟩:=r1;exact neg_int (qJ.at (g1.nw hp) k1 ⟨_,rfl⟩)
  |_=>exact no k1)
theorem PG {a p pos}(ha:bC K ns Γ a p):bC K ns Γ (.not a) (.UnaryOp .Not p pos):=fun B σ β k z Q E S hev hp=>
 wpAny_UnaryOp (ha B σ β _ z _ E S hev fun σ1 v1 x1 g1 r1 k1=>dU (M:=fun x=>Vl B.toBs σ1 v1 x→_) k1 (fun t q r=>not_of (tB r (hp σ1 _ (.bool (not t)) g1 rfl q))) r1)
theorem HH {a p pos}(ha:gW K ns Γ a p):gW K ns Γ (.not a) (.UnaryOp .Not p pos):=fun B σ β k z Q E _ S hev hp=>
 isTrue_not (ha B σ β _ z _ E (lO (f:=fun t ρ=>k (.bool (not t)) ρ)) S hev fun σ1 t g1 k1=>hp σ1 _ g1 k1)
theorem PH {o a b p q pos}(ha:bC K ns Γ a p)(hb:bC K ns Γ b q):bC K ns Γ (.bin o a b) (.BinOp p (VY o) q pos):=fun B σ β k z Q E S hev hp=>
 wpAny_BinOp (ha B σ β _ z _ E S hev fun σ1 v1 x1 g1 r1 k1=>hb B σ1 β _ z _ E g1.S k1 fun σ2 v2 x2 g2 r2 k2=>VZ (mI B.toBs σ2) (r1.mono g2.g) r2 k2 ((g1.trans g2).nw hp))
theorem kN (o:CO)(r:Expr):behindInMarks (qR o) r=false:=by
 have e:(qR o==.In||qR o==.NotIn)=false:=by cases o<;>rfl
 cases r with
 |Set l k p=>show (k==0 && (qR o==.In||qR o==.NotIn) && l.all (constantsAlone 8))=false;rw [e,Bool.and_false];rfl
 |_=>rfl
theorem vL {o a b p q}(ha:bC K ns Γ a p)(hb:bC K ns Γ b q){B:cU K ns Γ}{σ:Pt}{β:Type}{k:V→Fm→Option β}{z:β}{Q:Value→Shared→Prop}{E:Value→Shared→Prop}(S:dZ B.toBs σ)(hev:kE K.C Internal.glb (.cmp o a b) β σ.ρ k=some z)
  (hp:∀σ' v x,cV B.toBs (aJ (.cmp o a b)) σ σ'→Vl B.toBs σ' v x→k x σ'.ρ=some z→Q v σ'.s):
  wpAny K.M K.A (eval p B.env) (fun u s₁=>wpAny K.M K.A (eval q B.env) (fun v s₂=>wpAny K.M K.A (compareOp (qR o) u v) Q E s₂) E s₁) E σ.s:=
 ha B σ β _ z _ E S hev fun σ1 v1 x1 g1 r1 k1=>hb B σ1 β _ z _ E g1.S k1 fun σ2 v2 x2 g2 r2 k2=>GN (mI B.toBs σ2) (abG K) (r1.mono g2.g) r2 k2 ((g1.trans g2).nw hp)
theorem PI {o a b p q pos}(ha:bC K ns Γ a p)(hb:bC K ns Γ b q):bC K ns Γ (.cmp o a b) (.Compare p [qR o] [q] pos):=fun B σ β k z Q E S hev hp=>
 wpAny_Compare1 (vL ha hb S hev hp) (kN o _)
theorem HI {o a b p q pos}(ha:bC K ns Γ a p)(hb:bC K ns Γ b q):gW K ns Γ (.cmp o a b) (.Compare p [qR o] [q] pos):=fun B σ β k z Q E ht S hev hp=>
 wpAny_isTrue_Compare1 (vL ha hb S hev (PE ht hp)) (kN o _)
theorem vM {a p c pos}(ha:bC K ns Γ a p){B:cU K ns Γ}{σ:Pt}{β:Type}{k:V→Fm→Option β}{z:β}{Q:Value→Shared→Prop}{E:Value→Shared→Prop}(S:dZ B.toBs σ)(hev:kE K.C Internal.glb (.isN a) β σ.ρ k=some z)
  (hp:∀σ' v x,cV B.toBs (aJ a) σ σ'→Vl B.toBs σ' v x→k x σ'.ρ=some z→Q v σ'.s):
  wpAny K.M K.A (eval p B.env) (fun u s₁=>wpAny K.M K.A (eval (.Constant .none c pos) B.env) (fun v s₂=>wpAny K.M K.A (compareOp .Is u v) Q E s₂) E s₁) E σ.s:=
 ha B σ β _ z _ E S hev fun σ1 v1 x1 g1 r1 k1=>Constant_none (abA (k:=fun x=>k x σ1.ρ) k1 r1 (g1.nw hp))
theorem PJ {a p c pos pos'}(ha:bC K ns Γ a p):bC K ns Γ (.isN a) (.Compare p [.Is] [.Constant .none c pos'] pos):=fun B σ β k z Q E S hev hp=>wpAny_Compare1 (vM ha S hev hp) rfl
theorem HJ {a p c pos pos'}(ha:bC K ns Γ a p):gW K ns Γ (.isN a) (.Compare p [.Is] [.Constant .none c pos'] pos):=fun B σ β k z Q E ht S hev hp=>
 wpAny_isTrue_Compare1 (vM ha S hev (PE ht hp)) rfl
inductive qT:List Nat→List Expr→Prop
 |nil:qT [] []
 |cons {n l t c p}:n<27→qT l t→qT (n::l) (.Constant (.str (nm n)) c p::t)
theorem qT.ok {l ts}(h:qT l ts):(∀m∈l,m<27)∧ts.length=l.length:=by
 induction h with
 |nil=>exact ⟨fun _ h=>(nomatch h),rfl⟩
 |cons h _ ih=>exact ⟨fun m hm=>(List.mem_cons.mp hm).elim (fun e=>e▸h) (ih.1 m),congrArg (· +1) ih.2⟩
theorem PK {l ts}(h:qT l ts){pos:Pos}{env:Env}{A:Around}{g:Gh}{E:Value→Shared→Prop}:∀{s:Shared} {Q:List Value→Shared→Prop},(∀tk vs,bJ K.w.params g vs (l.map V.str)→Q vs {s with toks:=tk})→
  wpAny K.M A (spliced (backTo pos (starEach ts env))) Q E s:=by
 induction h with
 |nil=>exact fun {s Q} hq=>args_nil (hq s.toks [] .nil)
 |cons hn _ ih=>exact fun {s Q} hq=>args_cons (wpAny_Constant_str (ih fun tk vs hv=>hq tk _ (.cons ⟨hn,_,rfl⟩ hv))) rfl
theorem vN {p a l pa ts c tpos}(ha:bC K ns Γ a pa)(hs:qT l ts)(hlen:Nat.ble l.length jA=true){B:cU K ns Γ}{σ:Pt}{β:Type}{k:V→Fm→Option β}{z:β}{Q:Value→Shared→Prop}{E:Value→Shared→Prop}(S:dZ B.toBs σ)(hev:kE K.C Internal.glb (.inS p a l) β σ.ρ k=some z)
  (hp:∀σ' v x,cV B.toBs (aJ a) σ σ'→Vl B.toBs σ' v x→k x σ'.ρ=some z→Q v σ'.s):
  wpAny K.M K.A (eval pa B.env) (fun u s₁=>wpAny K.M K.A (eval (.Tuple ts c tpos) B.env) (fun v s₂=>wpAny K.M K.A (compareOp (GQ p) u v) Q E s₂) E s₁) E σ.s:=
 ha B σ β _ z _ E S hev fun σ1 v1 x1 g1 r1 k1=>by
  cases x1 with
  |str n=>
   refine wpAny_Tuple (PK (g:=gS B.toBs σ1) hs fun tk vs hv=>⟨by rw [bJ.length hv,List.length_map];exact eX hlen,?_⟩)
   let σ2:Pt:=σ1.to (σ1.s.heap.push (vA vs)) tk
   have g2:cV B.toBs true σ1 σ2:=.new g1.S tk bB
   exact abB (s:=σ2.s) (g:=gS B.toBs σ2) (k:=fun x=>k x σ1.ρ) hs.ok.1 (Rp.mono r1 g2.g) (Heap.get?_push_size _ rfl) (bJ.mono hv g2.g) k1 ((g1.thenP g2).nw hp)
  |_=>exact no k1
theorem PL {p a l pa ts c tpos pos}(ha:bC K ns Γ a pa)(hs:qT l ts)(hlen:Nat.ble l.length jA=true):bC K ns Γ (.inS p a l) (.Compare pa [GQ p] [.Tuple ts c tpos] pos):=fun B σ β k z Q E S hev hp=>
 wpAny_Compare1 (vN ha hs hlen S hev hp) (by cases p<;>rfl)
theorem HK {p a l pa ts c tpos pos}(ha:bC K ns Γ a pa)(hs:qT l ts)(hlen:Nat.ble l.length jA=true):gW K ns Γ (.inS p a l) (.Compare pa [GQ p] [.Tuple ts c tpos] pos):=fun B σ β k z Q E ht S hev hp=>
 wpAny_isTrue_Compare1 (vN ha hs hlen S hev (PE ht hp)) (by cases p<;>rfl)
theorem cV.pure {K:Kx}{B:Bs K}{pu b:Bool}{σ σ1:Pt}(g:cV B pu σ σ1)(h:pu=true):cV B b σ σ1:=⟨g.S,g.w,g.u,fun _=>g.p h⟩
theorem abH {a b c:Bool}(h:(a && b && c)=true):a=true∧b=true∧c=true:=by
 rw [Bool.and_eq_true,Bool.and_eq_true] at h;exact ⟨h.1.1,h.1.2,h.2⟩
theorem AO {t:Bool}(x:V)(ρ:Fm)(h:(fun (v:V) (_:Fm)=>some v) x ρ=some (.bool t)):∃t,x=.bool t:=⟨t,Option.some.inj h⟩
theorem PM {t a b pt pa pb pos}(ht:gW K ns Γ t pt)(ha:bC K ns Γ a pa)(hb:bC K ns Γ b pb):bC K ns Γ (.ite t a b) (.IfExp pt pa pb pos):=fun B σ β k z Q E S hev hp=>by
 refine aF (aA hev) fun hpu hev=>?_
 refine eT (abH hpu) fun q1 q2 q3=>?_
 refine IfExp_ (ht B σ β _ z _ E (lO (f:=fun c _=>(cond c (kE K.C Internal.glb a V σ.ρ fun v _=>some v) (kE K.C Internal.glb b V σ.ρ fun v _=>some v)).bind fun v=>k v σ.ρ)) S hev fun σ1 c g1 k1=>?_)
 refine aD (aO k1) fun y e1 e2=>?_
 rw [←g1.p q1] at e1
 cases c with
 |true=>exact ha B σ1 V _ y _ E g1.S e1 fun σ2 v x g2 r2 e=>hp σ2 v x ((g1.trans g2).pure (by refine (Eq.symm q1)▸?_;refine (Eq.symm q2)▸?_;rfl)) r2 (by cases e;refine (Eq.symm (g2.p q2))▸?_;refine (Eq.symm (g1.p q1))▸?_;exact e2)
 |false=>exact hb B σ1 V _ y _ E g1.S e1 fun σ2 v x g2 r2 e=>hp σ2 v x ((g1.trans g2).pure (by refine (Eq.symm q1)▸?_;refine (Eq.symm q3)▸?_;rfl)) r2 (by cases e;refine (Eq.symm (g2.p q3))▸?_;refine (Eq.symm (g1.p q1))▸?_;exact e2)
theorem HL {t a b pt pa pb pos}(ht:gW K ns Γ t pt)(ha:gW K ns Γ a pa)(hb:gW K ns Γ b pb):gW K ns Γ (.ite t a b) (.IfExp pt pa pb pos):=fun B σ β k z Q E hk S hev hp=>by
 refine aF (aA hev) fun hpu hev=>?_
 refine eT (abH hpu) fun q1 q2 q3=>?_
 refine isTrue_IfExp (ht B σ β _ z _ E (lO (f:=fun c _=>(cond c (kE K.C Internal.glb a V σ.ρ fun v _=>some v) (kE K.C Internal.glb b V σ.ρ fun v _=>some v)).bind fun v=>k v σ.ρ)) S hev fun σ1 c g1 k1=>?_)
 refine aD (aO k1) fun y e1 e2=>?_
 refine aR (hk y _ e2) fun t agB=>?_;subst agB
 rw [←g1.p q1] at e1
 cases c with
 |true=>exact ha B σ1 V _ _ _ E AO g1.S e1 fun σ2 x g2 e=>hp σ2 x ((g1.trans g2).pure (by refine (Eq.symm q1)▸?_;refine (Eq.symm q2)▸?_;rfl)) (by cases e;refine (Eq.symm (g2.p q2))▸?_;refine (Eq.symm (g1.p q1))▸?_;exact e2)
 |false=>exact hb B σ1 V _ _ _ E AO g1.S e1 fun σ2 x g2 e=>hp σ2 x ((g1.trans g2).pure (by refine (Eq.symm q1)▸?_;refine (Eq.symm q3)▸?_;rfl)) (by cases e;refine (Eq.symm (g2.p q3))▸?_;refine (Eq.symm (g1.p q1))▸?_;exact e2)
structure qU (K:Ct)(ns:dL)(Γ:cZ)(es:List E)(pes:List Expr):Prop where
 nd:∀(B:cU K ns Γ) (σ:Pt) (β:Type) (k:V→Fm→Option β) (z:β) (Q:Value→Shared→Prop) (E:Value→Shared→Prop) (pos:Pos),es≠[]→aK es=true→dZ B.toBs σ→cM K.C Internal.glb es β σ.ρ k=some z→
  (∀σ' v x,cV B.toBs true σ σ'→Vl B.toBs σ' v x→k x σ'.ρ=some z→Q v σ'.s)→wpAny K.M K.A (eval (.BoolOp .And pes pos) B.env) Q E σ.s
 or:∀(B:cU K ns Γ) (σ:Pt) (β:Type) (k:V→Fm→Option β) (z:β) (Q:Value→Shared→Prop) (E:Value→Shared→Prop) (pos:Pos),es≠[]→aK es=true→dZ B.toBs σ→uV K.C Internal.glb es β σ.ρ k=some z→
  (∀σ' v x,cV B.toBs true σ σ'→Vl B.toBs σ' v x→k x σ'.ρ=some z→Q v σ'.s)→wpAny K.M K.A (eval (.BoolOp .Or pes pos) B.env) Q E σ.s
 andT:∀(B:cU K ns Γ) (σ:Pt) (β:Type) (k:V→Fm→Option β) (z:β) (Q:Bool→Shared→Prop) (E:Value→Shared→Prop) (pos:Pos) (whole:Sem Value),(∀x ρ,k x ρ=some z→∃t,x=.bool t)→aK es=true→dZ B.toBs σ→cM K.C Internal.glb es β σ.ρ k=some z→
  (∀σ' t,cV B.toBs true σ σ'→k (.bool t) σ'.ρ=some z→Q t σ'.s)→wpAny K.M K.A (isTrue (.BoolOp .And pes pos) B.env whole) Q E σ.s
 orT:∀(B:cU K ns Γ) (σ:Pt) (β:Type) (k:V→Fm→Option β) (z:β) (Q:Bool→Shared→Prop) (E:Value→Shared→Prop) (pos:Pos) (whole:Sem Value),(∀x ρ,k x ρ=some z→∃t,x=.bool t)→aK es=true→dZ B.toBs σ→uV K.C Internal.glb es β σ.ρ k=some z→
  (∀σ' t,cV B.toBs true σ σ'→k (.bool t) σ'.ρ=some z→Q t σ'.s)→wpAny K.M K.A (isTrue (.BoolOp .Or pes pos) B.env whole) Q E σ.s
theorem eY {a b:Bool}(h:(a && b)=true):a=true∧b=true:=Bool.and_eq_true_iff.mp h
theorem qU.nil:qU K ns Γ [] [] where
 nd:=fun B σ β k z Q E pos h=>absurd rfl h
 or:=fun B σ β k z Q E pos h=>absurd rfl h
 andT:=fun B σ β k z Q E pos whole _ _ S hev hp=>isTrue_and_nil (hp σ true (.here S _) hev)
 orT:=fun B σ β k z Q E pos whole _ _ S hev hp=>isTrue_or_nil (hp σ false (.here S _) hev)
theorem qU.cons {e:E}{r:List E}{p:Expr}{t:List Expr}(he:bX K ns Γ e p)(hl:t.length=r.length)(hr:qU K ns Γ r t):qU K ns Γ (e::r) (p::t) where
 nd:=fun B σ β k z Q E pos _ hpu S hev hp=>by
  refine aF (eY hpu) fun q1 q2=>?_
  cases r with
  |nil=>
   cases t with
   |nil=>exact BoolOp_one (he.ev B σ β k z Q E S hev fun σ' v x g=>hp σ' v x (g.pure q1))
   |cons _ _=>cases hl
  |cons e2 r2=>
   cases t with
   |nil=>cases hl
   |cons p2 t2=>
    refine BoolOp_and (he.ev B σ β (fun x ρ₁=>dG x fun t=>cond t (cM K.C Internal.glb (e2::r2) β ρ₁ k) (k (.bool false) ρ₁)) z _ E S hev fun σ1 v1 x1 g1 r1 k1=>dU (M:=fun x=>Vl B.toBs σ1 v1 x→_) k1 (fun c k2 r1=>tB r1 ?_) r1)
    cases c with
    |true=>exact hr.nd B σ1 β k z Q E pos nofun q2 g1.S k2 fun σ' v x g=>hp σ' v x ((g1.thenP g).pure q1)
    |false=>exact hp σ1 _ _ (g1.pure q1) r1 k2
 or:=fun B σ β k z Q E pos _ hpu S hev hp=>by
  refine aF (eY hpu) fun q1 q2=>?_
  cases r with
  |nil=>
   cases t with
   |nil=>exact BoolOp_one (he.ev B σ β k z Q E S hev fun σ' v x g=>hp σ' v x (g.pure q1))
   |cons _ _=>cases hl
  |cons e2 r2=>
   cases t with
   |nil=>cases hl
   |cons p2 t2=>
    refine BoolOp_or (he.ev B σ β (fun x ρ₁=>dG x fun t=>cond t (k (.bool true) ρ₁) (uV K.C Internal.glb (e2::r2) β ρ₁ k)) z _ E S hev fun σ1 v1 x1 g1 r1 k1=>dU (M:=fun x=>Vl B.toBs σ1 v1 x→_) k1 (fun c k2 r1=>tB r1 ?_) r1)
    cases c with
    |true=>exact hp σ1 _ _ (g1.pure q1) r1 k2
    |false=>exact hr.or B σ1 β k z Q E pos nofun q2 g1.S k2 fun σ' v x g=>hp σ' v x ((g1.thenP g).pure q1)
 andT:=fun B σ β k z Q E pos whole hk hpu S hev hp=>by
  refine aF (eY hpu) fun q1 q2=>?_
  cases r with
  |nil=>
   cases t with
   |nil=>
    refine isTrue_and (he.t B σ β k z _ E hk S hev fun σ1 c g1 k1=>?_)
    cases c with
    |true=>exact isTrue_and_nil (hp σ1 _ (g1.pure q1) k1)
    |false=>exact hp σ1 _ (g1.pure q1) k1
   |cons _ _=>cases hl
  |cons e2 r2=>
   refine isTrue_and (he.t B σ β _ z _ E (lO (f:=fun c ρ₁=>cond c (cM K.C Internal.glb (e2::r2) β ρ₁ k) (k (.bool false) ρ₁))) S hev fun σ1 c g1 k1=>?_)
   cases c with
   |true=>exact hr.andT B σ1 β k z Q E pos whole hk q2 g1.S k1 fun σ' x g=>hp σ' x ((g1.thenP g).pure q1)
   |false=>exact hp σ1 _ (g1.pure q1) k1
 orT:=fun B σ β k z Q E pos whole hk hpu S hev hp=>by
  refine aF (eY hpu) fun q1 q2=>?_
  cases r with
  |nil=>
   cases t with
   |nil=>
    refine isTrue_or (he.t B σ β k z _ E hk S hev fun σ1 c g1 k1=>?_)
    cases c with
    |true=>exact hp σ1 _ (g1.pure q1) k1
    |false=>exact isTrue_or_nil (hp σ1 _ (g1.pure q1) k1)
   |cons _ _=>cases hl
  |cons e2 r2=>
   refine isTrue_or (he.t B σ β _ z _ E (lO (f:=fun c ρ₁=>cond c (k (.bool true) ρ₁) (uV K.C Internal.glb (e2::r2) β ρ₁ k))) S hev fun σ1 c g1 k1=>?_)
   cases c with
   |true=>exact hp σ1 _ (g1.pure q1) k1
   |false=>exact hr.orT B σ1 β k z Q E pos whole hk q2 g1.S k1 fun σ' x g=>hp σ' x ((g1.thenP g).pure q1)
theorem PN {es pes pos}(hn:es≠[])(h:qU K ns Γ es pes):bC K ns Γ (.and es) (.BoolOp .And pes pos):=fun B σ β k z Q E S hev hp=>by
 refine aF (aA hev) fun hpu hev=>?_
 refine aD (aO hev) fun y e1 e2=>?_
 exact h.nd B σ V _ y Q E pos hn hpu S e1 fun σ' v x g r e=>hp σ' v x (g.pure rfl) r (by cases e;rw [g.p rfl];exact e2)
theorem WE {es pes pos}(hn:es≠[])(h:qU K ns Γ es pes):bC K ns Γ (.or es) (.BoolOp .Or pes pos):=fun B σ β k z Q E S hev hp=>by
 refine aF (aA hev) fun hpu hev=>?_
 refine aD (aO hev) fun y e1 e2=>?_
 exact h.or B σ V _ y Q E pos hn hpu S e1 fun σ' v x g r e=>hp σ' v x (g.pure rfl) r (by cases e;refine (Eq.symm (g.p rfl))▸?_;exact e2)
theorem HM {es pes pos}(h:qU K ns Γ es pes):gW K ns Γ (.and es) (.BoolOp .And pes pos):=fun B σ β k z Q E hk S hev hp=>by
 refine eS fun gG gH=>?_;refine aF (aA hev) fun hpu hev=>?_
 refine aD (aO hev) fun y e1 e2=>?_
 refine aR (hk y _ e2) fun t agC=>?_;subst agC
 refine gH ?_;exact h.andT B σ V _ _ Q E pos _ AO hpu S e1 fun σ' x g e=>hp σ' x (g.pure rfl) (by cases e;refine (Eq.symm (g.p rfl))▸?_;exact e2)
theorem PO {es pes pos}(h:qU K ns Γ es pes):gW K ns Γ (.or es) (.BoolOp .Or pes pos):=fun B σ β k z Q E hk S hev hp=>by
 refine eS fun gG gH=>?_;refine aF (aA hev) fun hpu hev=>?_
 refine aD (aO hev) fun y e1 e2=>?_
 refine aR (hk y _ e2) fun t agD=>?_;subst agD
 refine gH ?_;exact h.orT B σ V _ _ Q E pos _ AO hpu S e1 fun σ' x g e=>hp σ' x (g.pure rfl) (by cases e;rw [g.p rfl];exact e2)
theorem PP {es pes c pos}(h:jY K ns Γ es pes)(hl:Nat.ble es.length jA=true):bC K ns Γ (.tup es) (.Tuple pes c pos):=fun B σ β k z Q E S hev hp=>
 wpAny_Tuple (h B σ β _ z _ E _ S hev fun σ1 vs xs g1 r1 e1 k1=>⟨by rw [bJ.length r1,e1];exact eX hl,g1.nw hp _ _ _ _ bB k1 (bM _ vs ⟨rfl,.inr ⟨Heap.get?_push_size _ rfl,aV⟩,bJ.mono r1 nK⟩)⟩)
theorem PQ {es pes pos}(h:jY K ns Γ es pes)(hl:Nat.ble es.length jA=true):bC K ns Γ (.lst es) (.List pes pos):=fun B σ β k z Q E S hev hp=>
 wpAny_List (h B σ β _ z _ E _ S hev fun σ1 vs xs g1 r1 e1 k1=>⟨by rw [bJ.length r1,e1];exact eX hl,g1.nw hp _ _ _ _ bB k1 (gE _ vs _ ⟨rfl,.inr ⟨Heap.get?_push_size _ rfl,aV⟩,bJ.mono r1 nK⟩)⟩)
theorem HN {pos}:bC K ns Γ .dct0 (.Dict [] [] pos):=fun B σ β k z Q E S hev hp=>
 wpAny_Dict_empty ((cV.here S true).nw hp _ _ _ _ bB hev (gE _ [] _ ⟨rfl,.inr ⟨Heap.get?_push_size _ rfl,aV⟩,rfl,List.nodup_nil⟩))
theorem HO {a pa n c p pos}(ha:bC K ns Γ a pa):bC K ns Γ (.subN a n) (.Subscript pa (.Constant (.int n) c p) pos):=fun B σ β k z Q E S hev hp=>
 PyProof.Rows.Subscript_ (ha B σ β _ z _ E S hev fun σ1 v1 x1 g1 r1 k1=>wpAny_Constant_int (GO (s:=(σ1.to σ1.s.heap _).s) jF (mI B.toBs σ1) r1 k1 ((g1.thenP (.new g1.S _ fun _ _ g=>g)).nw hp)))
theorem pF {B:cU K ns Γ}{σ:Pt}(S:dZ B.toBs σ){n:Nat}{xs:List V}(e:σ.ρ.at n=.l xs):∃p a vs m,B.pls[n]? =some p∧σ.own[n]? =some (some a)∧rd σ.s.heap p (.ref a)∧σ.s.heap.get? a=some (bV vs m)∧bJ K.w.params (gS B.toBs σ) vs xs:=by
 refine bN (S.get (Fm.at_some e nofun)) fun p oa e1 e2 k=>?_
 cases oa with
 |none=>exact k.elim
 |some a=>refine aF k fun r agT=>?_;obtain ⟨vs,m,h1,h2⟩:=agT;exact (zZ p a vs m ⟨e1,e2,r,h1,h2⟩)
theorem pG {B:cU K ns Γ}{σ:Pt}(S:dZ B.toBs σ){n:Nat}{kvs:List (V×V)}(e:σ.ρ.at n=.d kvs):∃p a es m,B.pls[n]? =some p∧σ.own[n]? =some (some a)∧rd σ.s.heap p (.ref a)∧σ.s.heap.get? a=some (cD es m)∧
  hM K.w.params (gS B.toBs σ) es kvs∧(kvs.map (·.1)).Nodup∧(a==sysModules)=false:=by
 refine bN (S.get (Fm.at_some e nofun)) fun p oa e1 e2 k=>?_
 cases oa with
 |none=>exact k.elim
 |some a=>
  refine aF k fun r agU=>?_;obtain ⟨es,m,h1,h2,h3⟩:=agU
  refine (zZ p a es m ⟨e1,e2,r,h1,h2,h3,beq_eq_false_iff_ne.mpr ?_⟩)
  rintro rfl
  rcases S.ow n _ e2 with q|q
  ·exact q.2 B.sys.1
  ·exact (B.ioN _ q.2).2 rfl
theorem Gr.same {K:Kx}{pls:List Pl}{own own1:sV}{h h1:Heap}(w:Gr K pls own h own1 h1){p:Pl}{n:Nat}(hp:pls[n]? =some p){v u:Value}(r:rd h p v)(r1:rd h1 p u):u=v:=r1.uniq (w.r p (List.mem_of_getElem? hp) _ r)
theorem tI {B:cU K ns Γ}{b:Bool}{σ σ1:Pt}(g:cV B.toBs b σ σ1){n:Nat}{xs:List V}{p:Pl}{a:Addr}(hp:B.pls[n]? =some p)(r:rd σ.s.heap p (.ref a))(e:σ1.ρ.at n=.l xs):∃vs m,σ1.own[n]? =some (some a)∧σ1.s.heap.get? a=some (bV vs m)∧bJ K.w.params (gS B.toBs σ1) vs xs:=
 mY (pF g.S e) fun p' a' vs m w1 w2 w3 w4 w5=>
  have e:a'=a:=Value.ref.inj (g.w.same hp r (Option.some.inj (w1.symm.trans hp)▸w3))
  ⟨vs,m,e▸w2,e▸w4,w5⟩
theorem xZ {B:cU K ns Γ}{b:Bool}{σ σ1:Pt}(g:cV B.toBs b σ σ1){n:Nat}{kvs:List (V×V)}{p:Pl}{a:Addr}(hp:B.pls[n]? =some p)(r:rd σ.s.heap p (.ref a))(e:σ1.ρ.at n=.d kvs):∃es m,σ1.own[n]? =some (some a)∧σ1.s.heap.get? a=some (cD es m)∧
  hM K.w.params (gS B.toBs σ1) es kvs∧(kvs.map (·.1)).Nodup∧(a==sysModules)=false:=
 GB (pG g.S e) fun p' a' es m w1 w2 w3 w4 w5 w6 w7=>
  have e:a'=a:=Value.ref.inj (g.w.same hp r (Option.some.inj (w1.symm.trans hp)▸w3))
  ⟨es,m,e▸w2,e▸w4,w5,w6,e▸w7⟩
theorem PR {a b pa pb pos}(ha:bC K ns Γ a pa)(hb:bX K ns Γ b pb):bC K ns Γ (.sub a b) (.Subscript pa pb pos):=fun B σ β k z Q E S hev hp=>
 PyProof.Rows.Subscript_ (ha B σ β _ z _ E S hev fun σ1 v1 x1 g1 r1 k1=>hb.ev B σ1 β _ z _ E g1.S k1 fun σ2 v2 x2 g2 r2 k2=>by
  have hsl:=hb.plain k1
  have r1:=r1.mono g2.g
  cases x1 with
  |lst l=>
   cases x2 with
   |int i=>
    refine eS fun gG gH=>?_;obtain ⟨_,rfl⟩:=r2
    obtain ⟨a,vs,m,rfl,h1,r1⟩:=r1
    refine gH ?_;exact AL hsl h1.1 r1 k2 ((g1.trans g2).nw hp)
   |_=>exact no k2
  |tup l=>
   cases x2 with
   |int i=>cases i with
    |ofNat n=>
     obtain ⟨_,rfl⟩:=r2
     exact GO (n:=n) hsl (mI B.toBs σ2) r1 k2 ((g1.trans g2).nw hp)
    |negSucc n=>exact no k2
   |_=>exact no k2
  |dct l=>
   refine eS fun gG gH=>?_;obtain ⟨a,es,m,rfl,h1,r1,nd⟩:=r1
   obtain ⟨hk,k2⟩:=aA k2
   obtain ⟨_,_,rfl⟩:=fU hk
   obtain ⟨b,ws,rfl,h2,r2⟩:=r2
   refine gH ?_;exact tail_any ⟨_,h1.1,rfl⟩ slot_dict_getitem.lookup (tD (mI B.toBs σ2) (HG K) h1.1 r1 nd (show Vl B.toBs σ2 _ (.tup _) from (bM b ws ⟨rfl,h2,r2⟩)) hk k2 ((g1.trans g2).nw hp)) (hW hsl _ _)
  |_=>exact no k2)
theorem nV {P:Params}{g:Gh}{u:Value}{k:V}(hk:cC k=true)(h:Rp P g u k):∃a,u=.ref a:=by
 refine aF (fU hk) fun _ agE=>?_;obtain ⟨l,rfl⟩:=agE
 refine cF h fun a _ agF _=>?_;subst agF
 exact ⟨a,rfl⟩
theorem HP {n b y p pb pos}(hx:Γ[n]? =some (some y))(hb:bX K ns Γ b pb):bC K ns Γ (.subO n b) (.Subscript (.Name y p) pb pos):=fun B σ β k z Q E S hev hp=>by
 refine aF (aA hev) fun hpu hev=>?_
 have hsl:=hb.plain hev
 refine bA (aX b hev) fun _ _ hs=>?_
 refine aD (PD (s:=σ.ρ.at n) hs) fun xs e _=>?_
 refine mY (pF S e) fun pl a vs m q1 q2 q3 q4 q5=>?_
 refine PyProof.Rows.Subscript_ (B.ok.evalName hx q1 q3 ?_)
 rw [e] at hev
 refine hb.ev B σ β _ z _ E S hev fun σ1 v1 x1 g1 r1 k1=>?_
 cases x1 with
 |int i=>
  refine aR r1 fun _ agG=>?_;subst agG
  refine bN (tI g1 q1 q3 (by rw [g1.p hpu];exact e)) fun vs' m' w2 w4 w5=>?_
  exact AL hsl w4 w5 k1 ((g1.pure hpu).nw (k:=fun v _=>k v σ.ρ) fun σ' v x g r k=>hp σ' v x g r (by refine (Eq.symm (g.p hpu))▸?_;exact k))
 |_=>exact no k1
end
section
variable {K:Ct}{ns:dL}{Γ:cZ}
theorem DF {a b pa pb p pos}(ha:bC K ns Γ a pa)(hb:bC K ns Γ b pb):bC K ns Γ (.slcLo a b) (.Subscript pa (.Slice (some pb) none none p) pos):=fun B σ β k z Q E S hev hp=>
 PyProof.Rows.Subscript_ (ha B σ β _ z _ E S hev fun σ1 v1 x1 g1 r1 k1=>wpAny_Slice (by
  rw [evalPart_some,evalPart_none]
  refine hb B σ1 β _ z _ E g1.S k1 fun σ2 v2 x2 g2 r2 k2=>wpAny_pure (wpAny_pure ?_)
  refine vF (f:=fun l n=>l.drop n) (M:=fun x y=>Vl B.toBs σ1 v1 x→Vl B.toBs σ2 v2 y→_) (show (xJ x1 x2).bind (fun z=>k z σ2.ρ)=some z from k2) (fun l i hl q r1 r2=>?_) r1 r2
  refine eS fun gG gH=>?_;obtain ⟨a,vs,m,rfl,h1,r1⟩:=Rp.mono r1 g2.g
  obtain ⟨t,rfl⟩:=r2
  refine gH ?_;let σ3:=σ2.to (σ2.s.heap.push {cls:=.type "slice",data:=.fields #[.int i t,.none,.none]}) σ2.s.toks
  have g3:cV B.toBs true σ2 σ3:=.new g2.S _ bB
  exact tail_any ⟨_,(g3.g _ _ h1).1,rfl⟩ slot_list_getitem.lookup (WA (s:=σ3.s) (Heap.IsSliceOf.new ..) (g3.g _ _ h1).1 (bJ.mono r1 g3.g) hl q (((g1.trans g2).thenP g3).nw hp)) (GR _ _ _ _ _ _ rfl)))
theorem DG {a b pa pb p pos}(ha:bC K ns Γ a pa)(hb:bC K ns Γ b pb):bC K ns Γ (.slcHi a b) (.Subscript pa (.Slice none (some pb) none p) pos):=fun B σ β k z Q E S hev hp=>
 PyProof.Rows.Subscript_ (ha B σ β _ z _ E S hev fun σ1 v1 x1 g1 r1 k1=>wpAny_Slice (by
  rw [evalPart_some,evalPart_none]
  refine wpAny_pure (hb B σ1 β _ z _ E g1.S k1 fun σ2 v2 x2 g2 r2 k2=>wpAny_pure ?_)
  refine vF (f:=fun l n=>l.take n) (M:=fun x y=>Vl B.toBs σ1 v1 x→Vl B.toBs σ2 v2 y→_) (show (kI x1 x2).bind (fun z=>k z σ2.ρ)=some z from k2) (fun l i hl q r1 r2=>?_) r1 r2
  refine eS fun gG gH=>?_;obtain ⟨a,vs,m,rfl,h1,r1⟩:=Rp.mono r1 g2.g
  obtain ⟨t,rfl⟩:=r2
  refine gH ?_;let σ3:=σ2.to (σ2.s.heap.push {cls:=.type "slice",data:=.fields #[.none,.int i t,.none]}) σ2.s.toks
  have g3:cV B.toBs true σ2 σ3:=.new g2.S _ bB
  exact tail_any ⟨_,(g3.g _ _ h1).1,rfl⟩ slot_list_getitem.lookup (WB (s:=σ3.s) (Heap.IsSliceOf.new ..) (g3.g _ _ h1).1 (bJ.mono r1 g3.g) hl q (((g1.trans g2).thenP g3).nw hp)) (GR _ _ _ _ _ _ rfl)))
structure cP (K:Ct)(h:Heap)(out:Addr→Prop)(io:Option Addr):Prop where
 base:∀a o,K.cx.bs.get? a=some o→h.get? a=some o∧¬out a
 live:∀a,out a→a<h.objs.size∨∃o,h.get? a=some o
 tb:∀a,K.T.tb a→out a∧a<h.objs.size
 ti:K.T.inv fun a o=>h.get? a=some o∧(K.T.tb a∨¬out a)
 sys:out sysModules∧sysModules<h.objs.size
 io:∀a,io=some a→out a∧¬K.T.tb a∧a≠sysModules
abbrev go (h:Heap) (out:Addr→Prop):Gh:=fun a o=>h.get? a=some o∧¬out a
def fJ (P:Params)(h:Heap)(g:Gh)(io:Option Addr)(vs:List Value)(slots:List aE):Prop:=match io with
 |none=>∃xs,slots=xs.map .v∧bJ P g vs xs
 |some a=>∃sl xs rest,slots=sl::xs.map .v∧vs=.ref a::rest∧dB P g h a sl∧bJ P g rest xs
structure lP (K:Ct)(h:Heap)(out:Addr→Prop)(io:Option Addr)(r:V)(sl:aE)(h':Heap)(v:Value):Prop where
 keep:∀a o,h.get? a=some o→¬K.T.tb a→io≠some a→h'.get? a=some o
 ti:K.T.inv fun a o=>h'.get? a=some o∧(K.T.tb a∨¬out a)
 val:Rp K.w.params (go h' out) v r
 own:∀a,io=some a→dB K.w.params (go h' out) h' a sl
def cA (K:Ct):Prop:=∀(f:Nat) (fn:Fn) (slots:List aE) (r:V) (sl:aE) (fa:Addr),K.C f slots=some (r,sl)→nS[f]? =some fn→K.cx.mg fn.name=some (.ref fa)→
 ∀(s:Shared) (out:Addr→Prop) (io:Option Addr) (args:List Value),cP K s.heap out io→fJ K.w.params s.heap (go s.heap out) io args slots→io.isSome=fn.io→
 ∀R:Result→Shared→Prop,(∀h' tk v,lP K s.heap out io r sl h' v→R (.ok (.ret v)) {s with heap:=h',toks:=tk})→codeAny K.M K.A (.call (.ref fa) ⟨args,[]⟩) R s
theorem pH {B:cU K ns Γ}{σ:Pt}(S:dZ B.toBs σ){io:Option Addr}(hio:∀a,io=some a→some a∈σ.own):cP K σ.s.heap (Xs B.toBs σ.own) io where
 base:=fun a o e=>S.base e
 live:=fun a x=>(S.xlive x).imp (fun q=>Nat.lt_of_lt_of_le q S.size) id
 tb:=fun a t=>⟨.inl (B.tbN a t).2.1,Nat.lt_of_lt_of_le (B.tbN a t).1 S.size⟩
 ti:=S.ti
 sys:=⟨.inl B.sys.1,Nat.lt_of_lt_of_le B.sys.2 S.size⟩
 io:=fun a e=>⟨.inr (.inr (hio a e)),(S.ownX (hio a e)).1,by
  rintro rfl
  rcases (S.ownX (hio _ e)).2.2.2 with q|q
  ·exact q.2 B.sys.1
  ·exact (B.ioN _ q).2 rfl⟩
theorem nB {pes:List Expr}{p:Expr}{f:Value}{pos:Pos}{env:Env}{M:Model}{A:Around}{E:Value→Shared→Prop}{s:Shared}{Q:Args→Shared→Prop}(hp:PX p)
  (h:wpAny M A (spliced (backTo pos (starEach (p::pes) env))) (fun vs s'=>Q ⟨vs,[]⟩ s') E s):wpAny M A (evalArgs f true (backTo pos (starEach (p::pes) env)) []) Q E s:=by
 rw [bH hp] at h ⊢
 exact Calls.evalArgs_plain h
theorem HQ (HC:cA K){f fn e r p t gp pos}(hf:nS[f]? =some fn)(hio:fn.io=false)(hg:gK ns fn.name=true)(he:bX K ns Γ e p)(h:jY K ns Γ (e::r) (p::t)):bC K ns Γ (.call f (e::r)) (.Call (.Name fn.name gp) (p::t) [] pos):=fun B σ β k z Q E S hev hp=>by
 refine dA (K.cx.fns f fn hf) fun fa o fd hm hb hd=>?_
 refine aF (dE hg) fun hg1 hg2=>?_
 refine Call_Name rfl (cY K.cx B.ok (B.glb _ hg1) (B.nsg S) hm ?_ hg2)
 refine Calls.callWith_function (o:=o) (fd:=fd) (nB (he.plain (show kE K.C Internal.glb e _ _ _=some z from hev)) (h B σ β (fun l ρ₁=>(K.C f (l.map .v)).bind fun r=>k r.1 ρ₁) z _ E pos S hev fun σ1 vs xs g1 r1 _ k1=>⟨⟨(g1.S.base hb).1,hd⟩,wpAny_call ?_⟩))
 refine aD (aO k1) fun agH e2 k2=>?_;obtain ⟨y,sl⟩:=agH
 refine HC f fn _ _ _ fa e2 hf hm σ1.s (Xs B.toBs σ1.own) none _ (pH g1.S nofun) ⟨_,rfl,r1⟩ hio.symm _ fun h2 tk2 v P=>?_
 have S2:dZ B.toBs (σ1.to h2 tk2):=g1.S.chg (D:=K.T.tb) (fun b o g t=>P.keep b o g t nofun) (fun b t=>⟨(B.tbN b t).2.1,(B.tbN b t).2.2,.inl (B.tbN b t).1⟩) P.ti
 have g2:cV B.toBs true σ1 (σ1.to h2 tk2):=⟨S2,⟨⟨fun a o g t _ _=>P.keep a o g t nofun,fun _ m=>.inl m⟩,fun p hp v r=>r.at fun o g=>P.keep _ o g (UC hp).1 nofun⟩,rfl,fun _=>rfl⟩
 exact hp (σ1.to h2 tk2) v y (g1.thenP g2) P.val k2
theorem DH (HC:cA K){f fn n es y yp vs gp pos}(hf:nS[f]? =some fn)(hio:fn.io=true)(hg:gK ns fn.name=true)(hy:Γ[n]? =some (some y))(h:jY K ns Γ es vs):bC K ns Γ (.callO f n es) (.Call (.Name fn.name gp) (.Name y yp::vs) [] pos):=fun B σ β k z Q E S hev hp=>by
 refine aF (aA hev) fun hpu hev=>?_
 refine bA (iA es hev) fun _ _ hs=>?_
 have main:∀(sl0:aE) (hr:∃p a,B.pls[n]? =some p∧σ.own[n]? =some (some a)∧rd σ.s.heap p (.ref a)),(∀σ1,dZ B.toBs σ1→σ1.ρ.at n=sl0→∃p a,B.pls[n]? =some p∧σ1.own[n]? =some (some a)∧rd σ1.s.heap p (.ref a)∧dB K.w.params (gS B.toBs σ1) σ1.s.heap a sl0)→σ.ρ.at n=sl0→
   bW K.C Internal.glb es β σ.ρ (fun x _=>(K.C f (sl0::x.map .v)).bind fun r=>k r.1 (σ.ρ.set n r.2))=some z→wpAny K.M K.A (eval (.Call (.Name fn.name gp) (.Name y yp::vs) [] pos) B.env) Q E σ.s:=by
  intro sl0 gy1 hsl e hev;obtain ⟨p,a,hp1,_,hr⟩:=gy1
  refine dA (K.cx.fns f fn hf) fun fa o fd hm hb hd=>?_
  refine aF (dE hg) fun hg1 hg2=>?_
  refine Call_Name rfl (cY K.cx B.ok (B.glb _ hg1) (B.nsg S) hm ?_ hg2)
  refine Calls.callWith_function (o:=o) (fd:=fd) (Calls.evalArgs_plain (Calls.spliced_cons (B.ok.evalName hy hp1 hr ?_)))
  refine h B σ β _ z _ E pos S hev fun σ1 vs1 xs g1 r1 _ k1=>⟨⟨(g1.S.base hb).1,hd⟩,wpAny_call ?_⟩
  refine FX (hsl σ1 g1.S (by rw [g1.p hpu];exact e)) fun p' a' w1 w2 w3 hown=>?_
  rw [hp1] at w1;cases w1
  cases g1.w.same hp1 hr w3
  refine aD (aO k1) fun agW e2 k2=>?_;obtain ⟨x,sl⟩:=agW
  have hmem:=List.mem_of_getElem? w2
  refine HC f fn _ _ _ fa e2 hf hm σ1.s (Xs B.toBs σ1.own) (some a) _ (pH g1.S (by rintro b ⟨rfl⟩;exact hmem)) (gE _ _ _ ⟨rfl,rfl,hown,r1⟩) hio.symm _ fun h2 tk2 v P=>?_
  refine aF (g1.S.upd w2 (fun b ob g d=>P.keep b ob g (fun t=>d (.inl t)) fun e=>d (.inr (Option.some.inj e).symm)) P.ti (P.own a rfl)) fun S2 g2=>?_
  exact hp ⟨σ1.own,σ1.ρ.set n sl,{σ1.s with heap:=h2,toks:=tk2}⟩ v x ⟨S2,g1.w.trans g2,g1.u.trans rfl,fun e=>nomatch e⟩ P.val (by rw [g1.p hpu];exact k2)
 rcases HF (s:=σ.ρ.at n) hs with ⟨l,e,_⟩|⟨l,e,_⟩
 ·refine uZ (pF S e) fun p a _ _ q1 q2 q3 _=>?_
  exact main _ ⟨p,a,q1,q2,q3⟩ (fun σ1 S1 e=>mY (pF S1 e) fun p a vs m q1 q2 q3 q4 q5=>⟨p,a,q1,q2,q3,vs,m,q4,q5⟩) e (by rw [e] at hev;exact hev)
 ·refine uZ (pG S e) fun p a _ _ q1 q2 q3 _=>?_
  exact main _ ⟨p,a,q1,q2,q3⟩ (fun σ1 S1 e=>GB (pG S1 e) fun p a vs m q1 q2 q3 q4 q5 q6 _=>⟨p,a,q1,q2,q3,vs,m,q4,q5,q6⟩) e (by rw [e] at hev;exact hev)
theorem WF (b:B1):(b1N b,b1T b)∈cX:=by unfold cX;cases b<;>simp [b1N,b1T]
theorem WG (b:B2):(b2N b,b2T b)∈cX:=by unfold cX;cases b<;>simp [b2N,b2T]
theorem tJ {f:Value}(hf:(∃id,f=.builtin id)∨∃T,f=.type T){pos:Pos}{trees:List (Bool×Sem Value)}{M:Model}{A:Around}{E:Value→Shared→Prop}{s:Shared}{Q:Value→Shared→Prop}(hn:(trees.any fun x=>x.1)=false)
  (h:wpAny M A (evalArgs f true trees []) (fun a s₁=>wpAny M A (call f a.pos a.kw) Q E s₁) E s):wpAny M A (callWith pos f [] trees []) Q E s:=by
 rcases hf with ⟨id,rfl⟩|⟨T,rfl⟩
 ·exact Calls.callWith_builtin hn h
 ·exact PyProof.Rows.callWith_type hn h
theorem PS (b:B1):(∃id,b1T b=.builtin id)∨∃T,b1T b=.type T:=by cases b<;>first|exact .inl ⟨_,rfl⟩|exact .inr ⟨_,rfl⟩
theorem PT (b:B2):(∃id,b2T b=.builtin id)∨∃T,b2T b=.type T:=by cases b<;>exact .inl ⟨_,rfl⟩
theorem PU {b a p gp pos}(hg:gK ns (b1N b)=true)(ha:bX K ns Γ a p):bC K ns Γ (.bi1 b a) (.Call (.Name (b1N b) gp) [p] [] pos):=fun B σ β k z Q E S hev hp=>by
 refine aF (dE hg) fun hg1 hg2=>?_
 refine Call_Name rfl (cH K.cx B.ok (B.glb _ hg1) (B.nsg S) (B.nsb S) (WF b) ?_ hg2)
 rw [bH (ha.plain hev) [] B.env]
 exact tJ (PS b) rfl (Calls.evalArgs_plain (Calls.spliced_cons (ha.ev B σ β _ z _ E S hev fun σ1 v1 x1 g1 r1 k1=>Calls.spliced_nil (UD (mI B.toBs σ1) K.hh r1 k1 (g1.nw hp)))))
theorem PV {b a c p q gp pos}(hg:gK ns (b2N b)=true)(ha:bX K ns Γ a p)(hc:bC K ns Γ c q)(hq:PX q):bC K ns Γ (.bi2 b a c) (.Call (.Name (b2N b) gp) [p,q] [] pos):=fun B σ β k z Q E S hev hp=>by
 obtain ⟨hg1,hg2⟩:=dE hg
 refine Call_Name rfl (cH K.cx B.ok (B.glb _ hg1) (B.nsg S) (B.nsb S) (WG b) ?_ hg2)
 rw [bH (ha.plain hev),bH hq]
 exact tJ (PT b) rfl (Calls.evalArgs_plain (Calls.spliced_cons (ha.ev B σ β _ z _ E S hev fun σ1 v1 x1 g1 r1 k1=>Calls.spliced_cons (hc B σ1 β _ z _ E g1.S k1 fun σ2 v2 x2 g2 r2 k2=>Calls.spliced_nil (abE K.hh (r1.mono g2.g) r2 k2 ((g1.trans g2).nw hp))))))
theorem iB {x:Str}{p:Pos}{name:Str}{env:Env}:attributeBase (.Name x p) name env (eval (.Name x p) env)=eval (.Name x p) env:=rfl
section
variable {n:Nat}{k' d:E}{pk pd:Expr}{y:Str}{yp ap pos:Pos}(hl:(ap.endLine==pos.line)=true)(hy:Γ[n]? =some (some y))(hk:bX K ns Γ k' pk)(hd:bC K ns Γ d pd)(hdp:PX pd)
include hl hy hk hd hdp
theorem HR:bC K ns Γ (.dget n k' d) (.Call (.Attribute (.Name y yp) "get" ap) [pk,pd] [] pos):=fun B σ β k z Q E S hev hp=>by
 refine eS fun gG gH=>?_;refine aF (aA hev) fun hpu hev=>?_
 refine aF (eY hpu) fun p1 p2=>?_
 have hkp:=hk.plain hev
 refine bA (aX k' hev) fun _ _ hs=>?_
 refine bA (aX d hs) fun _ _ hs=>?_
 refine aD (vI (s:=σ.ρ.at n) hs) fun kvs e _=>?_
 refine mY (pG S e) fun pl a0 es0 m0 q1 q2 q3 q4 _=>?_
 refine gH ?_;have ht:backTo pos (starEach [pk,pd] B.env)=[(false,eval pk B.env),(false,eval pd B.env)]:=by rw [bH hkp,bH hdp];rfl
 refine wpAny_Call_method_late (trees:=[(false,eval pk B.env),(false,eval pd B.env)]) iB (by rw [ht];rfl) hl ht (B.ok.evalName hy q1 q3 (bM ("dict") ("dict.get") ⟨PySem.F.plainAttrs_dict,PySem.F.slot_dict_get,PySem.F.type_dict_get,⟨_,q4,rfl⟩,fun a q=>by cases q;exact ⟨_,q4,rfl⟩,?_⟩))
 refine Calls.callWith_builtin rfl (Calls.evalArgs_plain (Calls.spliced_cons (hk.ev B σ β _ z _ E S hev fun σ1 v1 x1 g1 r1 k1=>Calls.spliced_cons (hd B σ1 β _ z _ E g1.S (by rw [g1.p p1];exact k1) fun σ2 v2 x2 g2 r2 k2=>Calls.spliced_nil ?_))))
 have g:cV B.toBs true σ σ2:=(g1.trans g2).pure (by rw [p1,p2];rfl)
 refine iY (xZ g q1 q3 (by rw [g.p rfl];exact e)) fun es m w2 w4 w5 w6 w7=>?_
 rw [e] at k2
 refine eS fun gG gH=>?_;refine aF (aA k2) fun hkey k2=>?_
 have r1:=r1.mono g2.g
 refine aR (nV hkey r1) fun ka agX=>?_;subst agX
 refine gH ?_;exact GY (K:=fun v=>k v σ.ρ) (mI B.toBs σ2) (HG K) w4 w5 w6 r1 hkey w7 r2 k2 ((g.pure rfl).nw (k:=fun v _=>k v σ.ρ) fun σ' v x G r q=>hp σ' v x G r (by rw [G.p hpu];exact q))
theorem HS:bC K ns Γ (.dpop n k' d) (.Call (.Attribute (.Name y yp) "pop" ap) [pk,pd] [] pos):=fun B σ β k z Q E S hev hp=>by
 refine eS fun gG gH=>?_;refine aF (aA hev) fun hpu hev=>?_
 refine aF (eY hpu) fun p1 p2=>?_
 have hkp:=hk.plain hev
 refine bA (aX k' hev) fun _ _ hs=>?_
 refine bA (aX d hs) fun _ _ hs=>?_
 refine aD (vI (s:=σ.ρ.at n) hs) fun kvs e _=>?_
 refine mY (pG S e) fun pl a0 es0 m0 q1 q2 q3 q4 _=>?_
 refine gH ?_;have ht:backTo pos (starEach [pk,pd] B.env)=[(false,eval pk B.env),(false,eval pd B.env)]:=by rw [bH hkp,bH hdp];rfl
 refine wpAny_Call_method_late (trees:=[(false,eval pk B.env),(false,eval pd B.env)]) iB (by rw [ht];rfl) hl ht (B.ok.evalName hy q1 q3 (bM ("dict") ("dict.pop") ⟨PySem.F.plainAttrs_dict,PySem.F.slot_dict_pop,PySem.F.type_dict_pop,⟨_,q4,rfl⟩,fun a q=>by cases q;exact ⟨_,q4,rfl⟩,?_⟩))
 refine Calls.callWith_builtin rfl (Calls.evalArgs_plain (Calls.spliced_cons (hk.ev B σ β _ z _ E S hev fun σ1 v1 x1 g1 r1 k1=>Calls.spliced_cons (hd B σ1 β _ z _ E g1.S (by rw [g1.p p1];exact k1) fun σ2 v2 x2 g2 r2 k2=>Calls.spliced_nil ?_))))
 have g:cV B.toBs true σ σ2:=(g1.trans g2).pure (by rw [p1,p2];rfl)
 refine iY (xZ g q1 q3 (by rw [g.p rfl];exact e)) fun es m w2 w4 w5 w6 w7=>?_
 rw [e] at k2
 refine eS fun gG gH=>?_;refine aF (aA k2) fun hkey k2=>?_
 refine aF (aA k2) fun hz k2=>?_
 have r1:=r1.mono g2.g
 refine aR (nV hkey r1) fun ka agY=>?_;subst agY
 refine aR (iI k2) fun o ho=>?_
 refine aD (aO ho) fun w' hw _=>?_
 refine gH ?_;rw [hw] at k2
 refine HB (K:=fun v=>k v (σ.ρ.set n (.d w'))) (mI B.toBs σ2) w4 w5 w6 r1 hkey (kL hz) hw (HG K) w7 r2 k2 fun h3 tk3 es' n' r x hx rv hs hd3 hr3=>?_
 have hX:∀a o,gS B.toBs σ2 a o→gv B.toBs σ2.own h3 a o:=fun b o gg=>⟨(hs.2 b (by rintro rfl;exact gg.2 (.inr (.inr (List.mem_of_getElem? w2))))).trans gg.1,gg.2⟩
 refine aD (xR (prog:=K.cx.prog) w5) fun ent he1 _=>?_
 refine aF (g2.S.upd (sl:=.d w') w2 (fun b ob gg dd=>(hs.2 b fun q=>dd (.inr q)).trans gg) (K.T.mono _ _ (qQ hX fun b o t gg=>(hs.2 b fun q=>(g2.S.ownX (List.mem_of_getElem? w2)).1 (q▸t)).trans gg) g2.S.ti) (bM es' n' ⟨hd3,hM.mono hr3 hX,(AM he1 w6 hw).1.map _|>.nodup w6⟩)) fun S3 g3=>?_
 exact hp ⟨σ2.own,σ2.ρ.set n (.d w'),{σ2.s with heap:=h3,toks:=tk3}⟩ r x ⟨S3,g.w.trans g3,g.u.trans rfl,fun e=>nomatch e⟩ (Rp.mono rv hX) (by rw [g.p rfl];exact hx)
end
theorem HT {a p y yp pos}(hy:y=("RANKS" :Str)) (hg:gK ns y=true) (ha:bX K ns Γ a p):bC K ns Γ (.rank a) (.Subscript (.Name y yp) p pos):=fun B σ β k z Q E S hev hp=>by
 subst hy
 refine aF (dE hg) fun hg1 hg2=>?_
 refine bN K.cx.rk fun da f hm hmap hf=>?_
 refine PyProof.Rows.Subscript_ (cY K.cx B.ok (B.glb _ hg1) (B.nsg S) hm ?_ hg2)
 refine ha.ev B σ β _ z _ E S hev fun σ1 v1 x1 g1 r1 k1=>?_
 have hmap':σ1.s.heap.MapOf (PySem.strKind K.cx.prog K.w) da f:=iZ hmap fun o es ep e r=>⟨o,es,ep,(g1.S.base e).1,r⟩
 refine aD (aO k1) fun y e2 k2=>?_
 cases x1 with
 |str n=>
  refine eS fun gG gH=>?_;refine aD (Option.map_eq_some_iff.mp (show (([4,0,2,3,5,1]:List Int)[n]?).map V.int=some y from e2)) fun v e3 e4=>?_
  subst e4
  refine aF r1 fun hn agI=>?_;obtain ⟨t1,rfl⟩:=agI
  refine aR (hf n v e2) fun t ht=>?_
  refine gH ?_;exact tail_any hmap'.typeIs slot_dict_getitem.lookup (wpAny_getItem_of (PySem.strKind_is K.cx.prog K.w (nm n) t1) hmap' ht (qJ.at (g1.nw hp) k2 ⟨t,rfl⟩)) (hW (ha.plain hev) _ _)
 |_=>exact no e2
end
section
variable {K:Kx}{B:Bs K}{D:Addr→Prop}{pu:Bool}{σ σ2:Pt}{h1 h2:Heap}{tk1 tk2:Tok}
theorem St.offX {hd:∀d,D d→K.N≤d∧¬cQ B.pls d}{own:sV}{ρ:Fm}{h:Heap}(S:St (B.hide D hd) own ρ h)(ho:∀d,D d→¬B.out d){d:Addr}(q:D d):¬Xs B own d:=fun x=>x.elim (ho d q) fun x=>x.elim (hd d q).2 fun x=>
 (S.ownX x).2.2.2.elim (fun y=>y.2 (.inr q)) fun y=>absurd (B.ioN d y).1 (Nat.not_lt.mpr (hd d q).1)
theorem cV.show {hd:∀d,D d→K.N≤d∧¬cQ B.pls d}(S:dZ B σ)(hk:iG σ.s.heap h1)(f:∀d,D d→cG σ.s.heap d)(G:cV (B.hide D hd) pu (σ.to h1 tk1) σ2)(hk2:∀b o,σ2.s.heap.get? b=some o→¬D b→h2.get? b=some o):cV B pu σ (σ2.to h2 tk2) where
 S:=G.S.unhide (fun d q x=>(S.fresh (f d q)).1 (.inl x)) hk2
 w:=⟨((Gw.ext hk).trans G.w.toGw).beside hk2 fun b o q e=>(f b q).none e,fun p hp v r=>(G.w.r p hp v (r.at fun o=>hk _ o)).at fun o g=>hk2 _ o g fun q=>(hd _ q).2 ⟨p,hp,rfl⟩⟩
 u:=Up.trans (show Up σ.s (σ.to h1 tk1).s from rfl) (G.u.trans (show Up σ2.s (σ2.to h2 tk2).s from rfl))
 p:=fun e=>G.p e
theorem Gw.hid {own own1:sV}{h h1:Heap}{ρ:Fm}(S:St B own ρ h)(w:Gw K B.pls own h own1 h1){d:Addr}(q:B.out d∧K.N≤d){o:Obj}(e:h.get? d=some o):h1.get? d=some o:=
 w.k d o e (fun t=>absurd (B.tbN d t).1 (Nat.not_lt.mpr q.2)) (fun ⟨p,hp,x⟩=>(B.pl p hp).2 (x▸q.1)) fun m=>(S.ownX m).2.2.2.elim (fun x=>x.2 q.1) fun x=>absurd (B.ioN d x).1 (Nat.not_lt.mpr q.2)
end
section
variable {K:Ct}{ns:dL}{Γ:cZ}
noncomputable def cU.hide (B:cU K ns Γ)(D:Addr→Prop)(hd:∀d,D d→K.N≤d∧¬cQ B.pls d):cU K ns Γ where
 toBs:=B.toBs.hide D hd
 env:=B.env
 ok:=B.ok
 glb:=B.glb
 cel:=B.cel
theorem HU {a c p q pos}(ha:bX K ns Γ a p)(hc:bC K ns Γ c q):bC K ns Γ (.dct1 a c) (.Dict [some p] [q] pos):=fun B σ β k z Q E S hev hp=>by
 refine wpAny_Dict_any (by simp) rfl (by simp) (by simp) ?_
 let D:Addr→Prop:=fun b=>b=σ.s.heap.objs.size
 have f:∀d,D d→cG σ.s.heap d:=fun d e=>e▸aV
 have hl:(σ.s.heap.push (cD [] 0)).get? σ.s.heap.objs.size=some (cD [] 0):=Heap.get?_push_size _ rfl
 have hd:=S.hd f
 have SH:=S.hide bB f hd fun d e=>⟨_,(show d=σ.s.heap.objs.size from e)▸hl⟩
 refine pairTrees_cons_walk (ha.ev (B.hide D hd) (σ.to (σ.s.heap.push (cD [] 0)) σ.s.toks) β _ z _ E SH hev fun σ1 v1 x1 g1 r1 k1=>?_)
 refine hc (B.hide D hd) σ1 β _ z _ E g1.S k1 fun σ2 v2 x2 g2 r2 k2=>pairTrees_nil_walk ?_
 refine aF (aA k2) fun hkey k2=>?_
 have r1:=r1.mono g2.g
 refine aR (nV hkey r1) fun ka agJ=>?_;subst agJ
 have g:=g1.trans g2
 unfold storeAll
 rw [List.forIn_cons]
 refine wpAny_bind (wpAny_bind (tF (w':=[(x1,x2)]) (es:=[]) (l:=[]) (mI (B.hide D hd).toBs σ2) (HG K) (g.w.hid SH ⟨.inr rfl,(hd _ rfl).1⟩ hl) rfl List.nodup_nil r1 hkey r2 (Nat.zero_le _) rfl fun h3 tk3 es' n' hs hd3 hr3 hn3=>wpAny_pure (wpAny_pure ?_)))
 have hk2:∀b o,σ2.s.heap.get? b=some o→¬D b→h3.get? b=some o:=fun b o e n=>(hs.2 b n).trans e
 have G:=cV.show (hd:=hd) (tk2:=tk3) S bB f g hk2
 exact hp (σ2.to h3 tk3) _ (.dct [(x1,x2)]) G (gE _ es' n' ⟨rfl,⟨hd3,g.S.offX (hd:=hd) (fun d q x=>(S.fresh (f d q)).1 (.inl x)) (d:=σ.s.heap.objs.size) rfl⟩,hM.mono hr3 (oW (hd:=hd) hk2),hn3⟩) k2
end
def HV (pair:Bool)(t:Expr):Prop:=pair=true→∃ts k p,t=.Tuple ts k p
structure HW (K:Ct)(pair:Bool)(I:Addr)(ds:List Addr)(xs:List V)(Z:Nat→Heap→Gh→Prop):Prop where
 mono:∀i h h' g g',Z i h g→(∀a∈ds,∀o,h.get? a=some o→h'.get? a=some o)→(∀a o,g a o→g' a o)→Z i h' g'
 live:∀i h g,Z i h g→∀a∈ds,∃o,h.get? a=some o
 next:∀i x (s:Shared) g (Q:Value→Shared→Prop) E target,xs[i]? =some x→HV pair target→Z i s.heap g→lF g s→(∀a o,g a o→a∉ds)→
  (∀v h' tk,(∀b o,s.heap.get? b=some o→b∉ds→h'.get? b=some o)→Z (i+1) h' g→Rp K.w.params (fun a o=>g a o∨(s.heap.objs.size≤a∧h'.get? a=some o)) v x→Q v {s with heap:=h',toks:=tk})→
  wpAny K.M K.A (pyNext (.ref I)) (fun r s₁=>∃v,r=some v∧wpAny K.M K.A (letOwnedTupleGo target (.ref I) v) (fun _ s₂=>Q v s₂) E s₁) E s
 stop:∀(s:Shared) g (Q:Option Value→Shared→Prop) E,Z xs.length s.heap g→lF g s→(∀a o,g a o→a∉ds)→
  (∀h' tk,(∀b o,s.heap.get? b=some o→b∉ds→h'.get? b=some o)→Q none {s with heap:=h',toks:=tk})→wpAny K.M K.A (pyNext (.ref I)) Q E s
 self:∀i (s:Shared) g (Q:Value→Shared→Prop) E,Z i s.heap g→Q (.ref I) s→wpAny K.M K.A (pyIter (.ref I)) Q E s
section
variable {M:Model}{A:Around}{E:Value→Shared→Prop}{s:Shared}
theorem DI {target:Expr}{I:Addr}{v:Value}{o:Obj}{c:String}{fs:Array Value}{Q:Unit→Shared→Prop}(ho:s.heap.get? I=some o)(hc:o.cls=.type c)(hd:o.data=.fields fs)
  (hn:(["enumerate", "zip", "dict_itemiterator", "dict_reverseitemiterator", "odict_iterator", "itertools.zip_longest", "itertools.pairwise"]:List String).contains c=false) (h:Q () s):wpAny M A (letOwnedTupleGo target (.ref I) v) Q E s:=by
 have main:∀v:Value,wpAny M A (do
   let (.ref r,.ref a):=(Value.ref I,v)|return
   let o←load r
   match o.cls,o.data with
   |.type n,.fields vs=>
    if ["enumerate", "zip", "dict_itemiterator", "dict_reverseitemiterator", "odict_iterator", "itertools.zip_longest", "itertools.pairwise"].contains n && vs[0]? ==some (rawInt a) then
     rule "for.unpacks-the-owned-tuple"
     updateField r 0 .none
   |_,_=>pure ():Sem Unit) Q E s:=by
  intro v
  cases v<;>first
   |exact wpAny_pure h
   |(
    rename_i a
    refine wpAny_bind (wpAny_load ho ?_)
    refine (Eq.symm hc)▸?_;refine (Eq.symm hd)▸?_
    dsimp only
    rw [hn,Bool.false_and,if_neg Bool.false_ne_true]
    exact wpAny_pure h)
 cases target<;>first|exact wpAny_pure h|exact main v
end
section
variable {K:Ct}
theorem nW {pair:Bool}{I:Addr}{xs:List V}{It:Nat→Heap→Prop}{Dt:Gh→Prop}(m1:∀i h h',It i h→(∀o,h.get? I=some o→h'.get? I=some o)→It i h')(m2:∀g g',Dt g→(∀a o,g a o→g' a o)→Dt g')
  (lv:∀i h,It i h→∃o,h.get? I=some o∧∃c fs,o.cls=.type c∧o.data=.fields fs∧(["enumerate", "zip", "dict_itemiterator", "dict_reverseitemiterator", "odict_iterator", "itertools.zip_longest", "itertools.pairwise"]:List String).contains c=false)
  (nx:∀i x (s:Shared) g Q E,xs[i]? =some x→It i s.heap→Dt g→lF g s→(∀v h' tk,It (i+1) h'→Heap.SameBut I s.heap h'→Rp K.w.params g v x→Q (some v) {s with heap:=h',toks:=tk})→wpAny K.M K.A (pyNext (.ref I)) Q E s)
  (sp:∀(s:Shared) g Q E,It xs.length s.heap→Dt g→lF g s→(∀h',(∀b o,b≠I→s.heap.get? b=some o→h'.get? b=some o)→Q none {s with heap:=h'})→wpAny K.M K.A (pyNext (.ref I)) Q E s)
  (sf:∀i (s:Shared) Q E,It i s.heap→Q (.ref I) s→wpAny K.M K.A (pyIter (.ref I)) Q E s):HW K pair I [I] xs (fun i h g=>It i h∧Dt g) where
 mono:=fun i h h' g g' z hk hg=>⟨m1 i h h' z.1 (hk I (.head _)),m2 g g' z.2 hg⟩
 live:=fun i h g z a ha=>List.mem_singleton.mp ha▸(lv i h z.1).imp fun _ q=>q.1
 next:=fun i x s g Q E target hx _ z hg _ hQ=>nx i x s g _ E hx z.1 z.2 hg fun v h' tk hi hs hr=>⟨v,rfl,by
  refine aD (lv _ _ hi) fun o ho agZ=>?_;obtain ⟨c,fs,hc,hd,hn⟩:=agZ
  exact DI (s:={s with heap:=h',toks:=tk}) ho hc hd hn (hQ v h' tk (fun b o e n=>(hs.2 b fun q=>n (q▸.head _)).trans e) ⟨hi,z.2⟩ (hr.mono fun _ _ q=>.inl q))⟩
 stop:=fun s g Q E z hg _ hQ=>sp s g Q E z.1 z.2 hg fun h' hk=>hQ h' s.toks fun b o e n=>hk b o (fun q=>n (q▸.head _)) e
 self:=fun i s g Q E z hq=>sf i s Q E z.1 hq
theorem vO {pair:Bool}{I ax:Addr}{vs:List Value}{n:Nat}{xs:List V}:HW K pair I [I] xs (fun i h g=>h.IsListIter I ax i∧g ax (bV vs n)∧bJ K.w.params g vs xs):=
 nW (It:=fun i h=>h.IsListIter I ax i) (Dt:=fun g=>g ax (bV vs n)∧bJ K.w.params g vs xs) (fun i h h' z hk=>z.at hk) (fun g g' z hg=>⟨hg _ _ z.1,z.2.mono hg⟩) (fun i h z=>let ⟨o,ho,hc,hd⟩:=z;⟨o,ho,_,_,hc,hd,rfl⟩)
  (fun i x s g Q E hx z d hg hQ=>let ⟨v,hv,hr⟩:=bJ.get d.2 hx;wpAny_pyNext_list_item z (dD (hg _ _ d.1)) (x:=v) ((List.getElem?_toArray ..).trans hv) fun h' z' hs=>hQ v h' s.toks z' hs hr)
  (fun s g Q E z d hg hQ=>wpAny_pyNext_list_end K.hh z (dD (hg _ _ d.1)) ((List.getElem?_toArray ..).trans (List.getElem?_eq_none (Nat.le_of_eq (bJ.length d.2)))) fun h' he=>hQ h' he)
  fun i s Q E z hq=>wpAny_pyIter_listiter z hq
theorem DJ {pair:Bool}{I ax:Addr}{vs:List Value}{xs:List V}:HW K pair I [I] xs (fun i h g=>h.IsTupleIter I ax i∧g ax (vA vs)∧bJ K.w.params g vs xs):=
 nW (It:=fun i h=>h.IsTupleIter I ax i) (Dt:=fun g=>g ax (vA vs)∧bJ K.w.params g vs xs) (fun i h h' z hk=>z.at hk) (fun g g' z hg=>⟨hg _ _ z.1,z.2.mono hg⟩) (fun i h z=>let ⟨o,ho,hc,hd⟩:=z;⟨o,ho,_,_,hc,hd,rfl⟩)
  (fun i x s g Q E hx z d hg hQ=>let ⟨v,hv,hr⟩:=bJ.get d.2 hx;wpAny_pyNext_tuple_item z (⟨_,hg _ _ d.1,rfl,0,rfl⟩:s.heap.IsTuple ax vs.toArray) (x:=v) ((List.getElem?_toArray ..).trans hv) fun h' z' hs=>hQ v h' s.toks z' hs hr)
  (fun s g Q E z d hg hQ=>wpAny_pyNext_tuple_end K.hh z (⟨_,hg _ _ d.1,rfl,0,rfl⟩:s.heap.IsTuple ax vs.toArray) ((List.getElem?_toArray ..).trans (List.getElem?_eq_none (Nat.le_of_eq (bJ.length d.2)))) fun h' he=>hQ h' he)
  fun i s Q E z hq=>wpAny_pyIter_tupleiter z hq
theorem hM.nth {P:Params}{g:Gh}{l:List (V×V)}:∀{es:List DictEntry} {i:Nat} {k x:V},hM P g es l→l[i]? =some (k,x)→∃e,es[i]? =some e∧Rp P g e.key k∧Rp P g e.val x:=by
 induction l with
 |nil=>intro es i k x _ h;cases h
 |cons p l ih=>
  intro es i k x r h
  obtain ⟨e,v,t,rfl,a,b,c,r⟩:=r
  cases i with
  |zero=>cases h;exact ⟨_,rfl,b,c⟩
  |succ i=>exact ih (es:=t) (i:=i) r h
theorem hM.length {P:Params}{g:Gh}{l:List (V×V)}:∀{es:List DictEntry},hM P g es l→es.length=l.length:=by
 induction l with
 |nil=>intro es r;cases r;rfl
 |cons p l ih=>intro es r;obtain ⟨e,v,t,rfl,_,_,_,r⟩:=r;exact congrArg (· +1) (ih r)
theorem HX {I d:Addr}{es:List DictEntry}{n:Nat}{l:List (V×V)}{pair:Bool}:HW K pair I [I] (l.map (·.1)) (fun i h g=>h.IsKeyIter I d i es.length n∧g d (cD es n)∧hM K.w.params g es l):=
 nW (It:=fun i h=>h.IsKeyIter I d i es.length n) (Dt:=fun g=>g d (cD es n)∧hM K.w.params g es l) (fun i h h' z hk=>z.at hk) (fun g g' z hg=>⟨hg _ _ z.1,hM.mono z.2 hg⟩) (fun i h z=>let ⟨o,ho,hc,hd⟩:=z;⟨o,ho,_,_,hc,hd,rfl⟩)
  (fun i x s g Q E hx z d hg hQ=>by
   rw [List.getElem?_map,Option.map_eq_some_iff] at hx
   refine eS fun gG gH=>?_;obtain ⟨⟨k,y⟩,hx,rfl⟩:=hx
   obtain ⟨e,he,hk,_⟩:=hM.nth d.2 hx
   refine gH ?_;exact GZ z (hg _ _ d.1) he fun h' z' hs=>hQ _ h' s.toks z' hs hk)
  (fun s g Q E z d hg hQ=>AN K.hh z (hg _ _ d.1) (by rw [hM.length d.2,List.length_map];exact Nat.le_refl _) fun h' he=>hQ h' he)
  fun i s Q E z hq=>wpAny_pyIter_keyiter z hq
theorem HY {x:V}:∀(n:Nat) (a:Int) (i:Nat),(Internal.upTo n a)[i]? =some x→x=.int (a+i)∧i<n:=fun n=>by
 induction n with
 |zero=>intro a i h;cases h
 |succ n ih=>
  intro a i h
  cases i with
  |zero=>cases h;exact ⟨by rw [Int.natCast_zero,Int.add_zero],Nat.succ_pos _⟩
  |succ i=>
   refine aF (ih (a+1) i h) fun h1 h2=>?_
   exact ⟨h1.trans (congrArg V.int (by rw [Int.natCast_succ,Int.add_assoc,Int.add_comm 1])),Nat.succ_lt_succ h2⟩
theorem pI:∀(n:Nat) (a:Int),(Internal.upTo n a).length=n:=fun n=>by
 induction n with
 |zero=>intro a;rfl
 |succ n ih=>intro a;exact congrArg (· +1) (ih (a+1))
theorem DK {I:Addr}{a:Int}{n:Nat}{pair:Bool}:HW K pair I [I] (Internal.upTo n a) (fun i h _=>IsRangeIter h I (a+i) ((n:Int) - i) 1∧True):=
 nW (It:=fun i h=>IsRangeIter h I (a+i) ((n:Int) - i) 1) (Dt:=fun _=>True) (fun i h h' z hk=>hk _ z) (fun g g' z hg=>z) (fun i h z=>⟨_,z,_,_,rfl,rfl,rfl⟩)
  (fun i x s g Q E hx z d hg hQ=>by
   refine aF (HY n a i hx) fun ag0 hlt=>?_;subst ag0
   refine wpAny_pyNext_range_item z (by lia) fun h' z' hs=>hQ _ h' _ ?_ hs ⟨_,rfl⟩
   rw [Int.natCast_succ, ←Int.add_assoc, ←Int.sub_sub];exact z')
  (fun s g Q E z d hg hQ=>by
   rw [pI] at z
   exact wpAny_pyNext_range_end K.hh z (by lia) fun h' he=>hQ h' he)
  fun i s Q E z hq=>wpAny_pyIter_rangeiter z hq
theorem DL {x:V}:∀(l:List V) (a:Int) (i:Nat),(iO a l)[i]? =some x→∃y,l[i]? =some y∧x=.tup [.int (a+i),y]:=fun l=>by
 induction l with
 |nil=>intro a i h;cases h
 |cons y l ih=>
  intro a i h
  cases i with
  |zero=>cases h;exact ⟨y,rfl,by rw [Int.natCast_zero,Int.add_zero]⟩
  |succ i=>
   refine aD (ih (a+1) i h) fun z h1 h2=>?_
   exact ⟨z,h1,h2.trans (by rw [Int.natCast_succ,Int.add_assoc,Int.add_comm 1])⟩
theorem DM:∀(l:List V) (a:Int),(iO a l).length=l.length:=fun l=>by
 induction l with
 |nil=>intro a;rfl
 |cons y l ih=>intro a;exact congrArg (· +1) (ih (a+1))
theorem yA {x:V}:∀(l:List (V×V)) (i:Nat),(kH l)[i]? =some x→∃k y,l[i]? =some (k,y)∧x=.tup [k,y]:=fun l=>by
 induction l with
 |nil=>intro i h;cases h
 |cons p l ih=>
  intro i h
  cases i with
  |zero=>cases h;exact (bM _ _ ⟨rfl,rfl⟩)
  |succ i=>exact ih i h
theorem yB:∀(l:List (V×V)),(kH l).length=l.length:=fun l=>by
 induction l with
 |nil=>rfl
 |cons p l ih=>exact congrArg (· +1) ih
theorem HZ {e it ax:Addr}{vs:List Value}{n:Nat}{xs:List V}(hei:e≠it):
  HW K true e [e,it] (iO 0 xs) (fun i h g=>(∃old,IsEnum h e it i old)∧h.IsListIter it ax i∧g ax (bV vs n)∧bJ K.w.params g vs xs) where
 mono:=fun i h h' g g' st hk hg=>⟨st.1.imp fun old q=>hk e (.head _) _ q,st.2.1.at fun o q=>hk it (.tail _ (.head _)) o q,hg _ _ st.2.2.1,st.2.2.2.mono hg⟩
 live:=fun i h g st a ha=>by
  rcases List.mem_cons.mp ha with rfl|ha
  ·exact st.1.elim fun old q=>⟨_,q⟩
  ·exact List.mem_singleton.mp ha▸st.2.1.imp fun _ q=>q.1
 next:=fun i x s g Q E target hx ht st hg hd hQ=>by
  refine eS fun gG gH=>?_;refine uY st fun ahM hit ha hr=>?_;obtain ⟨old,he⟩:=ahM
  refine aD (DL xs 0 i hx) fun y hy ahN=>?_;subst ahN
  refine aD (bJ.get hr hy) fun v hv hrv=>?_
  refine jX (ht rfl) fun ts tk tp ahO=>?_;subst ahO
  refine gH ?_;refine wpAny_pyNext_enum_item he hit (dD (hg _ _ ha)) (x:=v) ((List.getElem?_toArray ..).trans hv) hei fun h' ho hit' hT hsz hk=>⟨_,rfl,?_⟩
  have hTe:s.heap.objs.size≠e:=Ne.symm (Nat.ne_of_lt (Heap.lt_size he))
  refine wpAny_letOwnedTupleGo_enum (s:={s with heap:=h',toks:=s.toks+1}) ho fun h'' he'' hs''=>?_
  refine hQ _ h'' _ (fun b o q hb=>(hs''.2 b fun e'=>hb (e'▸.head _)).trans (hk b o (fun e'=>hb (e'▸.head _)) (fun e'=>hb (e'▸.tail _ (.head _))) q)) ⟨⟨v,?_⟩,hit'.at fun o q=>(hs''.2 it (Ne.symm hei)).trans q,ha,hr⟩
   (bM _ [.int i s.toks,v] ⟨rfl,.inr ⟨Nat.le_refl _,(hs''.2 _ hTe).trans hT⟩,bJ.cons ⟨_,by rw [Int.zero_add]⟩ (bJ.cons (hrv.mono fun a o g=>.inl g) bJ.nil)⟩)
  rw [Int.natCast_succ];exact he''
 stop:=fun s g Q E st hg hd hQ=>by
  rw [DM] at st
  refine uY st fun ahP hit ha hr=>?_;obtain ⟨old,he⟩:=ahP
  exact wpAny_pyNext_enum_end K.hh he hit (dD (hg _ _ ha)) ((List.getElem?_toArray ..).trans (List.getElem?_eq_none (Nat.le_of_eq (bJ.length hr)))) fun h' hx=>hQ h' s.toks fun b o e hb=>hx b o (fun e'=>hb (e'▸.tail _ (.head _))) e
 self:=fun i s g Q E st hq=>let ⟨old,he⟩:=st.1;wpAny_pyIter_enum he hq
theorem jV:entryFor table "dict_itemiterator.__iter__" =some Builtin.«dict_keyiterator.__iter__»:=
 entryFor_alias (id':= "dict_keyiterator.__iter__") (by kernel_rfl) rfl (by decide+kernel) (by kernel_rfl)
theorem DN {I d:Addr}{es:List DictEntry}{n:Nat}{l:List (V×V)}:
  HW K true I [I] (kH l) (fun i h g=>(∃ok ov,IsItemIter h I d i es.length n ok ov)∧g d (cD es n)∧hM K.w.params g es l) where
 mono:=fun i h h' g g' st hk hg=>⟨let ⟨ok,ov,q⟩:=st.1;⟨ok,ov,hk I (.head _) _ q⟩,hg _ _ st.2.1,hM.mono st.2.2 hg⟩
 live:=fun i h g st a ha=>List.mem_singleton.mp ha▸let ⟨ok,ov,q⟩:=st.1;⟨_,q⟩
 next:=fun i x s g Q E target hx ht st hg hd hQ=>by
  refine eS fun gG gH=>?_;refine eT st fun ahQ ha hr=>?_;obtain ⟨ok,ov,hit⟩:=ahQ
  refine cF (yA l i hx) fun k y hy ahR=>?_;subst ahR
  refine eM (hM.nth hr hy) fun e he hk hv=>?_
  refine jX (ht rfl) fun ts tk tp ahS=>?_;subst ahS
  refine gH ?_;refine CY hit (hg _ _ ha) he fun h' ho hT hk'=>⟨_,rfl,?_⟩
  have hTe:s.heap.objs.size≠I:=Ne.symm (Nat.ne_of_lt (Heap.lt_size hit))
  refine wpAny_letOwnedTupleGo_items (s:={s with heap:=h'}) ho fun h'' he'' hs''=>?_
  exact hQ _ h'' _ (fun b o q hb=>(hs''.2 b fun e'=>hb (e'▸.head _)).trans (hk' b o (fun e'=>hb (e'▸.head _)) q)) ⟨(bM _ _ he''),ha,hr⟩
   (bM _ [e.key,e.val] ⟨rfl,.inr ⟨Nat.le_refl _,(hs''.2 _ hTe).trans hT⟩,bJ.cons (hk.mono fun a o g=>.inl g) (bJ.cons (hv.mono fun a o g=>.inl g) bJ.nil)⟩)
 stop:=fun s g Q E st hg hd hQ=>by
  rw [yB] at st
  refine eT st fun ahT ha hr=>?_;obtain ⟨ok,ov,hit⟩:=ahT
  exact HA K.hh hit (hg _ _ ha) (by refine (Eq.symm (hM.length hr))▸?_;exact Nat.le_refl _) fun h' he=>hQ h' s.toks fun b o e hb=>he b o (fun e'=>hb (e'▸.head _)) e
 self:=fun i s g Q E st hq=>by
  refine eT st fun ahU _ _=>?_;obtain ⟨ok,ov,hit⟩:=ahU
  have hT:s.TypeIs (.ref I) "dict_itemiterator" :=⟨_,hit,rfl⟩
  refine wpAny_pyIter_slot hT F.slot_dict_itemiterator_iter (wpAny_call_entry F.slot_dict_itemiterator_iter hT jV ?_ (F.args_dict_itemiterator_iter_1 _))
  show wpAny _ _ (ret (.ref I)) _ _ s
  exact wpAny_pure ⟨_,rfl, "dict_itemiterator",_,hT,F.slot_dict_itemiterator_next.lookup,hq⟩
end
section
variable {K:Ct}{ns:dL}{Γ:cZ}
structure fD (K:Ct)(ns:dL)(Γ:cZ)(pair:Bool)(sr:Sr)(pe:Expr):Prop where
 ev:∀(B:cU K ns Γ) (σ:Pt) (β:Type) (k:List V→Fm→Option β) (z:β) (Q:Value→Shared→Prop) (E:Value→Shared→Prop),dZ B.toBs σ→gJ K.C Internal.glb sr β σ.ρ k=some z→
  (∀σ1 h' tk I ds Z xs,cV B.toBs false σ σ1→iG σ1.s.heap h'→(∀d∈ds,cG σ1.s.heap d)→HW K pair I ds xs Z→Z 0 h' (gS B.toBs σ1)→k xs σ1.ρ=some z→Q (.ref I) (σ1.to h' tk).s)→
  wpAny K.M K.A (eval pe B.env) (fun xv s₁=>wpAny K.M K.A (pyIter xv) Q E s₁) E σ.s
 px:sr=.val .bad∨PX pe
theorem fD.plain {pair:Bool}{sr:Sr}{pe:Expr}(h:fD K ns Γ pair sr pe){C:CF}{β:Type}{ρ:Fm}{k:List V→Fm→Option β}{z:β}(hev:gJ C Internal.glb sr β ρ k=some z):PX pe:=h.px.elim (fun q=>by subst q;exact no hev) id
theorem yC {B:cU K ns Γ}{σ:Pt}{a:Addr}{o:Obj}(g:gS B.toBs σ a o):(a==sysModules)=false:=beq_eq_false_iff_ne.mpr fun e=>g.2 (.inl (e▸B.sys.1))
theorem kO {h:Heap}{a:Addr}(f:cG h a)(d:Addr)(m:d∈[a]):cG h d:=List.mem_singleton.mp m▸f
theorem DO {pair a p}(ha:bX K ns Γ a p):fD K ns Γ pair (.val a) p:=⟨fun B σ β k z Q E S hev hp=>ha.ev B σ β _ z _ E S hev fun σ1 v1 x1 g1 r1 k1=>by
  cases x1 with
  |lst l=>
   refine dA r1 fun a vs n agK hl hr=>?_;subst agK
   exact wpAny_pyIter_list (dD hl.1) (hp σ1 _ _ _ _ _ _ g1.any bB (kO aV) vO ⟨⟨_,Heap.get?_push_size _ rfl,rfl,rfl⟩,hl,hr⟩ k1)
  |tup l=>
   refine bN r1 fun a vs agL hl hr=>?_;subst agL
   exact wpAny_pyIter_tuple (⟨_,hl.1,rfl,0,rfl⟩:σ1.s.heap.IsTuple a vs.toArray) (hp σ1 _ _ _ _ _ _ g1.any bB (kO aV) DJ ⟨⟨_,Heap.get?_push_size _ rfl,rfl,rfl⟩,hl,hr⟩ k1)
  |dct l=>
   refine oO r1 fun a es n agM hl hr _=>?_;subst agM
   exact rK (yC hl) hl.1 (hp σ1 _ _ _ _ _ _ g1.any bB (kO aV) HX ⟨⟨_,Heap.get?_push_size _ rfl,rfl,rfl⟩,hl,hr⟩ k1)
  |_=>exact no k1,ha.px.imp (congrArg Sr.val) id⟩
theorem vP {pair:Bool}{B:cU K ns Γ}{σ σ1:Pt}{β:Type}{k:List V→Fm→Option β}{z:β}{Q:Value→Shared→Prop}{E:Value→Shared→Prop}{m n:Int}{t u w':Tok}{h2:Heap}{tk2:Tok}{r:Addr}(g1:cV B.toBs false σ σ1)
  (hp:∀σ1 h' tk I ds Z xs,cV B.toBs false σ σ1→iG σ1.s.heap h'→(∀d∈ds,cG σ1.s.heap d)→HW K pair I ds xs Z→Z 0 h' (gS B.toBs σ1)→k xs σ1.ρ=some z→Q (.ref I) (σ1.to h' tk).s)
  (hz:xN m n (fun l=>k l σ1.ρ)=some z) (hk:iG σ1.s.heap h2) (hr:IsRange h2 r m n 1 t u w'):wpAny K.M K.A (pyIter (.ref r)) Q E (σ1.to h2 tk2).s:=by
 refine eS fun gG gH=>?_;refine aF (aA hz) fun b1 hz=>?_
 refine aF (aA hz) fun b2 hz=>?_
 refine aF (aA hz) fun b3 hz=>?_
 refine aF (aA hz) fun b4 hz=>?_
 refine gH ?_;have b1:=of_decide_eq_true ((gX _ _).symm.trans b1)
 have b2:=of_decide_eq_true ((gX _ _).symm.trans b2)
 have b3:=of_decide_eq_true ((gX _ _).symm.trans b3)
 have b4:=of_decide_eq_true ((gX _ _).symm.trans b4)
 have l1: -1000000≤m:=Int.le_trans (by decide) (Int.le_of_lt b4)
 have l2:m≤1000000:=Int.le_trans (Int.le_of_lt b2) (by decide)
 have l3: -1000000≤n:=Int.le_trans (by decide) (Int.le_of_lt b3)
 have l4:n≤1000000:=Int.le_trans (Int.le_of_lt b1) (by decide)
 refine wpAny_pyIter_range (s:=(σ1.to h2 tk2).s) hr (small_one (Int.le_trans (by decide) l1) (Int.lt_of_le_of_lt l2 (by decide)) (Int.le_trans (by decide) l3) (Int.lt_of_le_of_lt l4 (by decide))) ?_
 have hsz:Builtin.Range.rangeSize m n 1=(((n - m).toNat:Nat):Int) - ((0:Nat):Int):=by
  rw [rangeSize_one]
  by_cases q:m<n
  ·rw [if_pos q];exact ((Int.sub_zero _).trans (Int.toNat_of_nonneg (Int.sub_nonneg_of_le (Int.le_of_lt q)))).symm
  ·rw [if_neg q,Int.toNat_of_nonpos (Int.sub_nonpos_of_le (Int.not_lt.mp q))];rfl
 refine hp σ1 _ _ _ [h2.objs.size] _ _ g1 (fun a o e=>Heap.get?_push_of_some _ (hk a o e)) (kO ⟨h2,hk,Nat.le_refl _⟩) DK ⟨?_,trivial⟩ hz
 rw [show ((Int.sub n m).toNat:Int) - ((0:Nat):Int)=Builtin.Range.rangeSize m n 1 from hsz.symm,Int.natCast_zero,Int.add_zero]
 exact Heap.get?_push_size _ rfl
theorem yD {pair a p y gp pos}(hy:y=("range" :Str)) (hg:gK ns y=true) (ha:bX K ns Γ a p):fD K ns Γ pair (.rng1 a) (.Call (.Name y gp) [p] [] pos):=⟨fun B σ β k z Q E S hev hp=>by
  subst hy
  obtain ⟨hg1,hg2⟩:=dE hg
  refine Call_Name rfl (cH K.cx B.ok (B.glb _ hg1) (B.nsg S) (B.nsb S) (v:=.type "range") (List.mem_of_getElem? (l:=cX) (i:=7) rfl) ?_ hg2)
  refine (Eq.symm (bH (ha.plain hev) [] B.env))▸?_
  refine PyProof.Rows.callWith_type rfl (Calls.evalArgs_plain (Calls.spliced_cons (ha.ev B σ β _ z _ E S hev fun σ1 v1 x1 g1 r1 k1=>Calls.spliced_nil ?_)))
  refine eS fun gG gH=>?_;obtain ⟨n,rfl,k1⟩:=gY k1
  obtain ⟨_,rfl⟩:=r1
  refine gH ?_;exact call_range_1 (vP g1.any hp k1 bB (Heap.get?_push_size _ rfl)),.inr jR⟩
theorem yE {pair a b p q y gp pos}(hy:y=("range" :Str)) (hg:gK ns y=true) (ha:bX K ns Γ a p) (hb:bX K ns Γ b q):fD K ns Γ pair (.rng2 a b) (.Call (.Name y gp) [p,q] [] pos):=⟨fun B σ β k z Q E S hev hp=>by
  subst hy
  refine aF (dE hg) fun hg1 hg2=>?_
  refine bA (aX a hev) fun _ _ hs=>?_
  refine Call_Name rfl (cH K.cx B.ok (B.glb _ hg1) (B.nsg S) (B.nsb S) (v:=.type "range") (List.mem_of_getElem? (l:=cX) (i:=7) rfl) ?_ hg2)
  refine (Eq.symm (bH (ha.plain hev) [q] B.env))▸?_;refine (Eq.symm (bH (hb.plain hs) [] B.env))▸?_
  refine PyProof.Rows.callWith_type rfl (Calls.evalArgs_plain (Calls.spliced_cons (ha.ev B σ β _ z _ E S hev fun σ1 v1 x1 g1 r1 k1=>Calls.spliced_cons (hb.ev B σ1 β _ z _ E g1.S k1 fun σ2 v2 x2 g2 r2 k2=>Calls.spliced_nil ?_))))
  refine aD (gY k2) fun m agN k2=>?_;subst agN
  refine aD (gY k2) fun n agO k2=>?_;subst agO
  refine aR r1 fun _ agP=>?_;subst agP
  refine aR r2 fun _ agQ=>?_;subst agQ
  exact call_range_2 (vP (g1.trans g2).any hp k2 bB (Heap.get?_push_size _ rfl)),.inr jR⟩
theorem DP {a p y gp pos}(hy:y=("enumerate" :Str)) (hg:gK ns y=true) (ha:bX K ns Γ a p):fD K ns Γ true (.enm a) (.Call (.Name y gp) [p] [] pos):=⟨fun B σ β k z Q E S hev hp=>by
  subst hy
  refine aF (dE hg) fun hg1 hg2=>?_
  refine Call_Name rfl (cH K.cx B.ok (B.glb _ hg1) (B.nsg S) (B.nsb S) (v:=.type "enumerate") (List.mem_of_getElem? (l:=cX) (i:=8) rfl) ?_ hg2)
  refine (Eq.symm (bH (ha.plain hev) [] B.env))▸?_
  refine PyProof.Rows.callWith_type rfl (Calls.evalArgs_plain (Calls.spliced_cons (ha.ev B σ β _ z _ E S hev fun σ1 v1 x1 g1 r1 k1=>Calls.spliced_nil ?_)))
  refine aD (xX k1) fun l agR k1=>?_;subst agR
  refine dA r1 fun a vs n agS hl hr=>?_;subst agS
  refine call_enumerate_list (dD hl.1) fun h' he hit hsz hk=>wpAny_pyIter_enum (s:=(σ1.to h' σ1.s.toks).s) he ?_
  exact hp σ1 h' σ1.s.toks _ [σ1.s.heap.objs.size+1,σ1.s.heap.objs.size] _ _ g1.any hk (fun d hd=>(List.mem_cons.mp hd).elim (fun e=>e▸.le (Nat.le_succ _)) (kO aV d)) (HZ (Nat.succ_ne_self _)) ⟨⟨_,by simpa using he⟩,hit,hl,hr⟩ k1,.inr jR⟩
theorem DQ {n y yp a ap pos}(hl:(ap.endLine==pos.line)=true)(ha:a=("items" :Str)) (hy:Γ[n]? =some (some y)) (hio:K.io=none∨n≠0):fD K ns Γ true (.itm n) (.Call (.Attribute (.Name y yp) a ap) [] [] pos):=⟨fun B σ β k z Q E S hev hp=>by
  subst ha
  refine aD (vI (s:=σ.ρ.at n) hev) fun kvs e hev=>?_
  refine iY (S.freeze (Fm.at_some e nofun) hio (.inr ⟨kvs,rfl,rfl⟩)) fun a p e1 r S' hg hr=>?_
  refine oO hr fun _ es m q hd hrd _=>?_
  cases q
  let σ1:Pt:=⟨σ.own.set n none,σ.ρ.set n (.v (.dct kvs)),σ.s⟩
  have hsys:(a==sysModules)=false:=yC (B:=B) (σ:=σ1) hd
  refine wpAny_Call_method0_late iB hl (B.ok.evalName hy e1 r (bM ("dict") ("dict.items") ⟨PySem.F.plainAttrs_dict,PySem.F.slot_dict_items,PySem.F.type_dict_items,⟨_,hd.1,rfl⟩,fun a q=>by cases q;exact ⟨_,hd.1,rfl⟩,?_⟩))
  refine Calls.callWith_builtin (args:=[]) rfl (PyProof.Rows.evalArgs_none ?_)
  show wpAny _ _ (call (.builtin "dict.items") [.ref a] []) _ _ _
  refine xT hsys hd.1 (xU (s:=(σ.to (σ.s.heap.push {cls:=.type "dict_items",data:=.fields #[.ref a]}) σ.s.toks).s) ⟨_,Heap.get?_push_size _ rfl,rfl,rfl⟩ (Heap.get?_push_of_some _ hd.1) ?_)
  exact hp σ1 _ σ.s.toks _ [(σ.s.heap.push {cls:=.type "dict_items",data:=.fields #[.ref a]}).objs.size] _ _ ⟨S',hg,rfl,fun e=>nomatch e⟩ (fun b o q=>Heap.get?_push_of_some _ (Heap.get?_push_of_some _ q)) (kO ⟨_,bB,Nat.le_refl _⟩) DN
   ⟨(bM _ _ (Heap.get?_push_size _ rfl)),hd,hrd⟩ hev,.inr jR⟩
theorem yF {pair n g gp y yp pos}(hn:g=("sorted" :Str)) (hg:gK ns g=true) (hy:Γ[n]? =some (some y)):fD K ns Γ pair (.srtE n) (.Call (.Name g gp) [.Name y yp] [] pos):=⟨fun B σ β k z Q E S hev hp=>by
  subst hn
  refine aF (dE hg) fun hg1 hg2=>?_
  refine aD (vI (s:=σ.ρ.at n) hev) fun kvs e hev=>?_
  refine GB (pG S e) fun p a es m q1 q2 q3 q4 q5 q6 q7=>?_
  cases kvs with
  |cons _ _=>exact no hev
  |nil=>
   cases q5
   refine Call_Name rfl (cH K.cx B.ok (B.glb _ hg1) (B.nsg S) (B.nsb S) (v:=.builtin "sorted") (List.mem_of_getElem? (l:=cX) (i:=9) rfl) ?_ hg2)
   refine tJ (.inl ⟨_,rfl⟩) rfl (Calls.evalArgs_plain (Calls.spliced_cons (B.ok.evalName hy q1 q3 (Calls.spliced_nil ?_))))
   refine tG K.hh q7 q4 fun h' hm l hk hkm hlm ⟨c,hl⟩=>wpAny_pyIter_list (s:=(σ.to h' σ.s.toks).s) (dD hl) ?_
   have g1:cV B.toBs true σ (σ.to h' σ.s.toks):=.new S _ hk
   exact hp (σ.to h' σ.s.toks) _ _ _ _ _ _ g1.any bB (kO aV) vO ⟨⟨_,Heap.get?_push_size _ rfl,rfl,rfl⟩,(show gS B.toBs (σ.to h' σ.s.toks) l (bV [] c) from ⟨hl,(S.fresh ⟨hm,hkm,hlm⟩).1⟩),bJ.nil⟩ hev,.inr jR⟩
end
structure fK {K:Kx}(B:Bs K)(qs:List Pl)(σ σ':Pt):Prop where
 S:dZ B σ'
 w:Gw K B.pls σ.own σ.s.heap σ'.own σ'.s.heap
 u:Up σ.s σ'.s
 r:∀q∈qs,∀v,rd σ.s.heap q v→rd σ'.s.heap q v
section
variable {K:Kx}{B:Bs K}{qs:List Pl}{σ σ1 σ2:Pt}
theorem fK.trans (h:fK B qs σ σ1)(k:fK B qs σ1 σ2):fK B qs σ σ2:=⟨k.S,h.w.trans k.w,h.u.trans k.u,fun q m v r=>k.r q m v (h.r q m v r)⟩
theorem fK.here (S:dZ B σ):fK B qs σ σ:=⟨S,.refl,rfl,fun _ _ _ r=>r⟩
theorem cV.gos {pu:Bool}(h:cV B pu σ σ1)(hq:∀q∈qs,q∈B.pls):fK B qs σ σ1:=⟨h.S,h.w.toGw,h.u,fun q m=>h.w.r q (hq q m)⟩
theorem cV.pure' {pu b:Bool}(g:cV B pu σ σ1)(h:b=true→pu=true):cV B b σ σ1:=⟨g.S,g.w,g.u,fun e=>g.p (h e)⟩
theorem fK.g (h:fK B qs σ σ1):∀x o,gS B σ x o→gS B σ1 x o:=h.w.g
end
section
variable {K:Ct}{ns:dL}{Γ:cZ}
def Tg (K:Ct)(Γ:cZ)(i:Nat)(n:Str):Prop:=Γ[i]? =some (some n)∧(K.io=none∨i≠0)
inductive AP (K:Ct)(Γ:cZ):List Nat→List Expr→Prop
 |nil:AP K Γ [] []
 |cons {i n p xs ts}:Tg K Γ i n→AP K Γ xs ts→AP K Γ (i::xs) (.Name n p::ts)
theorem AP.ok {xs ts}(h:AP K Γ xs ts){env:Env}:ts.length=xs.length∧(assignEach ts env).length=xs.length∧(assignEach ts env).findIdx? (·.1)=none:=by
 induction h with
 |nil=>exact ⟨rfl,rfl,rfl⟩
 | @cons i n p xs ts _ _ ih=>
  have e:assignEach (.Name n p::ts) env=(false,assign (.Name n p) env)::assignEach ts env:=rfl
  rw [e]
  refine ⟨congrArg (· +1) ih.1,congrArg (· +1) ih.2.1,?_⟩
  rw [List.findIdx?_cons,ih.2.2];rfl
variable {B:cU K ns Γ}{qs:List Pl}{E:Value→Shared→Prop}
theorem eO {σ:Pt}{i:Nat}{n:Str}{v:Value}{x:V}{Q:Unit→Shared→Prop}(hΓ:Tg K Γ i n)(S:dZ B.toBs σ)(hr:Vl B.toBs σ v x)(hq:∀q∈qs,B.pls[i]? ≠some q)(hp:∀σ',fK B.toBs qs σ σ'→σ'.ρ=σ.ρ.set i (.v x)→Q () σ'.s):
  wpAny K.M K.A (bindName B.env n v) Q E σ.s:=by
 refine aR (gO hΓ.1 B.ok.len) fun p h1=>?_
 refine aR (gO h1 S.lenP) fun sl h2=>?_
 refine aR (gO h2 S.lenO.symm) fun oa h3=>?_
 refine B.ok.bind hΓ.1 h1 (S.slot i p sl oa h1 h2 h3).there fun h' tk U=>?_
 refine aF (S.store_v hΓ.2 h1 U hr) fun S' w=>?_
 exact hp ⟨σ.own.set i none,σ.ρ.set i (.v x),{σ.s with heap:=h',toks:=tk}⟩ ⟨S',w,rfl,fun q m=>(U.oth q fun e=>hq q m (e▸h1)).1⟩ rfl
theorem yG {xs ts}(ht:AP K Γ xs ts):∀{σ:Pt} {vs:List Value} {vals:List V} {Q:Unit→Shared→Prop},dZ B.toBs σ→Vls B.toBs σ vs vals→xs.length=vals.length→(∀i∈xs,∀q∈qs,B.pls[i]? ≠some q)→
  (∀σ',fK B.toBs qs σ σ'→σ'.ρ=aW xs (vals.map .v) σ.ρ→Q () σ'.s)→wpAny K.M K.A (assignInOrder ((assignEach ts B.env).map (·.2)) vs) Q E σ.s:=by
 induction ht with
 |nil=>
  intro σ vs vals Q S hr hl _ hp
  cases vals with
  |nil=>cases hr;exact wpAny_pure (hp σ (.here S) rfl)
  |cons _ _=>cases hl
 | @cons i n p xs ts h _ ih=>
  intro σ vs vals Q S hr hl hq hp
  cases vals with
  |nil=>cases hl
  |cons x r=>
   refine bN hr fun v t agV h1 h2=>?_;subst agV
   show wpAny _ _ (do holding _ (assign (.Name n p) B.env _);assignInOrder ((assignEach ts B.env).map (·.2)) _) Q E σ.s
   refine wpAny_bind (wpAny_holding (show wpAny _ _ (do standAt p;bindName B.env n _) _ E σ.s from wpAny_bind (wpAny_standAt (eO h S h1 (hq i (.head _)) fun σ1 g1 e1=>?_))))
   exact ih g1.S (bJ.mono h2 g1.g) (Nat.succ.inj hl) (fun j hj=>hq j (.tail _ hj)) fun σ2 g2 e2=>hp σ2 (g1.trans g2) (by refine (Eq.symm e2)▸?_;refine (Eq.symm e1)▸?_;rfl)
theorem pJ {σ:Pt}{xs ts}{k:Nat}{tp:Pos}{v:Value}{vals:List V}{Q:Unit→Shared→Prop}(ht:AP K Γ xs ts)(S:dZ B.toBs σ)(hr:Vl B.toBs σ v (.tup vals))(hl:xs.length=vals.length)(hq:∀i∈xs,∀q∈qs,B.pls[i]? ≠some q)
  (hp:∀σ',fK B.toBs qs σ σ'→σ'.ρ=aW xs (vals.map .v) σ.ρ→Q () σ'.s):wpAny K.M K.A (assign (.Tuple ts k tp) B.env v) Q E σ.s:=by
 refine eS fun gG gH=>?_;obtain ⟨a,vs,rfl,ha,hr⟩:=hr
 obtain ⟨_,e1,e2⟩:=ht.ok (env:=B.env)
 refine gH ?_;refine wpAny_assign_Tuple K.hh (⟨_,ha.1,rfl,0,rfl⟩:σ.s.heap.IsTuple a vs.toArray) (by refine (Eq.symm e1)▸?_;refine (Eq.symm hl)▸?_;refine (bJ.length hr)▸?_;exact (Eq.symm List.size_toArray)▸rfl) e2 fun h' he=>?_
 have hk:iG σ.s.heap h':=fun b o e=>he b o (Nat.ne_of_lt (Heap.lt_size e)) e
 have g0:cV B.toBs true σ (σ.to h' σ.s.toks):=.new S _ hk
 exact yG ht g0.S (bJ.mono hr g0.g) hl hq fun σ2 g2 e2=>hp σ2 ⟨g2.S,(Gw.ext hk).trans g2.w,Up.trans g0.u g2.u,fun q m v r=>g2.r q m v (r.at fun o=>hk _ o)⟩ e2
inductive jG (K:Ct)(Γ:cZ):Bool→List Nat→Expr→Prop
 |one {i n p}:Tg K Γ i n→jG K Γ false [i] (.Name n p)
 |two {i j ts k p}:AP K Γ [i,j] ts→jG K Γ true [i,j] (.Tuple ts k p)
theorem jG.p {pair idx target}(h:jG K Γ pair idx target):HV pair target:=fun e=>by
 subst e;cases h;exact (gE _ _ _ rfl)
theorem abI {β:Type}{z:β}{l:List V}{f:List V→Option β}(h:fF 2 l f=some z):l.length=2∧f l=some z:=by
 cases l with
 |nil=>exact no h
 |cons a l=>cases l with
  |nil=>exact no h
  |cons b l=>cases l with
   |nil=>exact ⟨rfl,h⟩
   |cons c l=>exact no h
theorem nD {σ:Pt}{pair idx target}{v:Value}{x:V}{β:Type}{k:Fm→Option β}{z:β}{Q:Unit→Shared→Prop}(ht:jG K Γ pair idx target)(S:dZ B.toBs σ)(hr:Vl B.toBs σ v x)(hq:∀i∈idx,∀q∈qs,B.pls[i]? ≠some q)(hb:bE idx x σ.ρ k=some z)
  (hp:∀σ',fK B.toBs qs σ σ'→k σ'.ρ=some z→Q () σ'.s):wpAny K.M K.A (assign target B.env v) Q E σ.s:=by
 cases ht with
 | @one i n p h=>exact (show wpAny _ _ (do standAt p;bindName B.env n v) Q E σ.s from wpAny_bind (wpAny_standAt (eO h S hr (hq i (.head _)) fun σ1 g e=>hp σ1 g (e▸hb))))
 | @two i j ts kk pp h=>cases x with
  |tup l=>
   obtain ⟨e1,e2⟩:=abI (show fF 2 l (fun l=>k (aW [i,j] (l.map .v) σ.ρ))=some z from hb)
   exact pJ h S hr e1.symm hq fun σ1 g e=>hp σ1 g (e▸e2)
  |_=>exact no hb
theorem vQ {M:Model}{A:Around}{s:Shared}{env:Env}{Q:Bool→Shared→Prop}(h:Q false s)(pes:List Expr):
  wpAny M A (forIn pes false fun c r=>if r=true then do let ok←isTrue c env (eval c env);pure (ForInStep.yield ok) else pure (ForInStep.yield r)) Q E s:=by
 induction pes with
 |nil=>exact wpAny_pure h
 |cons p r ih=>
  rw [List.forIn_cons]
  exact wpAny_bind (wpAny_pure ih)
inductive jH (K:Ct)(ns:dL)(Γ:cZ):List Internal.E→List Expr→Prop
 |nil:jH K ns Γ [] []
 |cons {e r p t}:gW K ns Γ e p→jH K ns Γ r t→jH K ns Γ (e::r) (p::t)
theorem IA {ifs pes}(h:jH K ns Γ ifs pes):∀{σ:Pt} {β:Type} {k:V→Fm→Option β} {z:β} {Q:Bool→Shared→Prop},(∀x ρ,k x ρ=some z→∃t,x=.bool t)→dZ B.toBs σ→cM K.C Internal.glb ifs β σ.ρ k=some z→
  (∀σ' t,cV B.toBs (aK ifs) σ σ'→k (.bool t) σ'.ρ=some z→Q t σ'.s)→
  wpAny K.M K.A (forIn pes true fun c r=>if r=true then do let ok←isTrue c B.env (eval c B.env);pure (ForInStep.yield ok) else pure (ForInStep.yield r)) Q E σ.s:=by
 induction h with
 |nil=>intro σ β k z Q hk S hev hp;exact wpAny_pure (hp σ true (.here S _) hev)
 | @cons e r p t he hr ih=>
  intro σ β k z Q hk S hev hp
  rw [List.forIn_cons,if_pos rfl]
  cases hr with
  |nil=>
   refine wpAny_bind (wpAny_bind (he B σ β k z _ E hk S hev fun σ1 c g1 k1=>wpAny_pure ?_))
   cases c with
   |true=>exact wpAny_pure (hp σ1 true (g1.pure' (by rw [show aK [e]=(aJ e && true) from rfl,Bool.and_true];exact id)) k1)
   |false=>exact wpAny_pure (hp σ1 false (g1.pure' (by rw [show aK [e]=(aJ e && true) from rfl,Bool.and_true];exact id)) k1)
  | @cons e2 r2 p2 t2 h2 h3=>
   refine wpAny_bind (wpAny_bind (he B σ β _ z _ E (lO (f:=fun c ρ₁=>cond c (cM K.C Internal.glb (e2::r2) β ρ₁ k) (k (.bool false) ρ₁))) S hev fun σ1 c g1 k1=>wpAny_pure ?_))
   cases c with
   |true=>exact ih hk g1.S k1 fun σ2 t g2=>hp σ2 t (g1.trans g2)
   |false=>exact vQ (hp σ1 false (g1.pure' fun q=>(eY q).1) k1) _
end
noncomputable def cN (Γ:cZ)(scope:Scope)(vars:List Str):cZ:=(Γ.map fun o=>o.bind fun x=>if scope.names.lookup x==some .free then some x else none)++vars.map some
noncomputable abbrev rl (env:Env) (p:Str×NameKind):Str×NameKind:=if (p.2==NameKind.free && env.scope.kind==.function && env.kindOf p.1==some .cell) then (p.1,NameKind.cell) else (p.1,p.2)
theorem AQ {α:Type}{x n:Str}{k:α}{r:List (Str×α)}:(((n,k)::r).lookup x=some k∧x=n)∨(((n,k)::r).lookup x=r.lookup x∧x≠n):=by
 rw [List.lookup_cons]
 cases hx:x==n with
 |true=>exact .inl ⟨rfl,eq_of_beq hx⟩
 |false=>exact .inr ⟨rfl,fun e=>by rw [e,beq_self_eq_true] at hx;cases hx⟩
theorem vR (env:Env)(p:Str×NameKind):rl env p=p∨(p.2=.free∧rl env p=(p.1,.cell)):=by
 by_cases h:(p.2==NameKind.free && env.scope.kind==.function && env.kindOf p.1==some .cell)=true
 ·exact .inr ⟨eq_of_beq (Bool.and_eq_true_iff.mp (Bool.and_eq_true_iff.mp h).1).1,if_pos h⟩
 ·exact .inl (if_neg h)
theorem eC {env:Env}{x:Str}{k:NameKind}:∀{names:List (Str×NameKind)},names.lookup x=some k→(names.map (rl env)).lookup x=some k∨(k=.free∧(names.map (rl env)).lookup x=some .cell):=fun {names}=>by
 induction names with
 |nil=>intro h;cases h
 |cons p r ih=>
  obtain ⟨n,j⟩:=p
  intro h
  rcases AQ (x:=x) (n:=n) (k:=j) (r:=r) with ⟨e,q⟩|⟨e,q⟩
  ·rw [e] at h;cases h;subst q
   refine (Eq.symm List.map_cons)▸?_
   rcases vR env (x,k) with c|⟨c1,c2⟩
   ·rw [c,List.lookup_cons,beq_self_eq_true];exact .inl rfl
   ·rw [c2,List.lookup_cons,beq_self_eq_true];exact .inr ⟨c1,rfl⟩
  ·rw [e] at h
   have e2:((rl env (n,j))::r.map (rl env)).lookup x=(r.map (rl env)).lookup x:=by
    have:(rl env (n,j)).1=n:=by rcases vR env (n,j) with c|⟨_,c⟩<;>rw [c]
    rw [show rl env (n,j)=(n,(rl env (n,j)).2) from Prod.ext this rfl,List.lookup_cons,beq_eq_false_iff_ne.mpr q]
   refine (Eq.symm List.map_cons)▸?_;refine (Eq.symm e2)▸?_;exact ih h
theorem mem_of_lookup {names:List (Str×NameKind)}{x:Str}{k:NameKind}(h:names.lookup x=some k):(x,k)∈names:=by
 induction names with
 |nil=>cases h
 |cons p r ih=>
  obtain ⟨n,j⟩:=p
  rcases AQ (x:=x) (n:=n) (k:=j) (r:=r) with ⟨e,q⟩|⟨e,q⟩
  ·rw [e] at h;cases h;subst q;exact .head _
  ·exact .tail _ (ih (e▸h))
structure bY (ns:dL)(Γ:cZ)(scope:Scope)(vars:List Str):Prop where
 kind:scope.kind=.function
 ncell:∀p∈scope.names,p.2≠.cell
 loc:∀p∈scope.names,p.2=.local→scope.names.lookup p.1=some .local
 free:∀x,(x,NameKind.free)∈scope.names→ns.lookup x=some .cell∧some x∈Γ
 vr:∀x∈vars,scope.names.lookup x=some .local∧(x==("__debug__" :Str))=false∧(x==("__classdict__" :Str))=false
 nd:vars.Nodup
section
variable {K:Ct}{ns:dL}{Γ:cZ}{scope:Scope}{vars:List Str}{cl:List (Str×Addr)}{C:Addr}
theorem cU.cellAt (B:cU K ns Γ){x:Str}(hx:ns.lookup x=some .cell)(hm:some x∈Γ):∃c,B.env.cells.lookup x=some c:=by
 refine aR (ix hm) fun i hi=>?_
 rcases B.ok.names i x hi with ⟨hk,_⟩|⟨_,c,hc,_⟩
 ·rw [B.cel x hx] at hk;cases hk
 ·exact ⟨c,hc⟩
theorem iJ {i:Nat}{x:Str}(h:(cN Γ scope vars)[i]? =some (some x)):(i<Γ.length∧Γ[i]? =some (some x)∧scope.names.lookup x=some .free)∨(Γ.length≤i∧vars[i - Γ.length]? =some x):=by
 unfold cN at h
 by_cases hi:i<Γ.length
 ·rw [List.getElem?_append_left (by rw [List.length_map];exact hi),List.getElem?_map,Option.map_eq_some_iff] at h
  refine aD h fun o h1 h2=>?_
  refine aD (Option.bind_eq_some_iff.mp h2) fun y ag1 h3=>?_;subst ag1
  by_cases hf:(scope.names.lookup y==some .free)=true
  ·rw [if_pos hf] at h3;cases h3;exact .inl ⟨hi,h1,eq_of_beq hf⟩
  ·rw [if_neg hf] at h3;cases h3
 ·have hi:=Nat.le_of_not_lt hi
  rw [List.getElem?_append_right (by rw [List.length_map];exact hi),List.length_map,List.getElem?_map,Option.map_eq_some_iff] at h
  refine aD h fun y h1 h2=>?_
  cases h2;exact .inr ⟨hi,h1⟩
theorem DR {B:cU K ns Γ}(F:bY ns Γ scope vars)(hcl:∀x,(x,NameKind.free)∈scope.names→cl.lookup x=B.env.cells.lookup x):fA (compEnvC scope cl C B.env) (cN Γ scope vars) (B.pls++vars.map (.loc C)) where
 kind:=F.kind
 gl:=B.ok.gl
 bl:=B.ok.bl
 names:=fun i x h=>by
  rcases iJ h with ⟨hi,h1,hf⟩|⟨hi,h1⟩
  ·have hm:=mem_of_lookup hf
   rcases B.ok.names i _ h1 with ⟨hk,_⟩|⟨_,c,hc,hp⟩
   ·rw [B.cel _ (F.free _ hm).1] at hk;cases hk
   ·exact .inr ⟨(eC hf).elim .inr fun q=>.inl q.2,c,(hcl _ hm).trans hc,(List.getElem?_append_left (B.ok.len▸hi)).trans hp⟩
  ·refine .inl ⟨(eC (F.vr _ (List.mem_of_getElem? h1)).1).elim id fun q=>(nomatch q.1),?_⟩
   refine (Eq.symm (List.getElem?_append_right (B.ok.len▸hi)))▸?_;refine (Eq.symm List.getElem?_map)▸?_;refine B.ok.len▸?_;refine (Eq.symm h1)▸?_;rfl
 dbg:=fun i x h=>(iJ h).elim (fun q=>B.ok.dbg i _ q.2.1) fun q=>(F.vr _ (List.mem_of_getElem? q.2)).2
 len:=by unfold cN;rw [List.length_append,List.length_append,List.length_map,List.length_map,List.length_map,B.ok.len]
noncomputable def cU.comp (B:cU K ns Γ)(C:Addr)(F:bY ns Γ scope vars)(hC:K.N≤C∧¬B.out C∧¬cQ B.pls C)(hcl:∀x,(x,NameKind.free)∈scope.names→cl.lookup x=B.env.cells.lookup x):cU K scope.names (cN Γ scope vars) where
 toBs:=B.toBs.wide C vars hC F.nd
 env:=compEnvC scope cl C B.env
 ok:=DR F hcl
 glb:=fun x h=>(eC h).elim id fun q=>(nomatch q.1)
 cel:=fun x h=>(eC h).elim id fun q=>(nomatch q.1)
theorem yH {env:Env}:∀(l:List (Str×NameKind)) (cs:List (Str×Addr)),(∀x,(x,NameKind.free)∈l→∃c,env.cells.lookup x=some c)→
  ∃cl,(forIn l cs fun p r=>match p with|(name,k)=>if (k==NameKind.free)=true then do let c←cellOf env name;pure (ForInStep.yield ((name,c)::r)) else pure (ForInStep.yield r):Sem (List (Str×Addr)))=pure cl∧∀x,((x,NameKind.free)∈l→cl.lookup x=env.cells.lookup x)∧((x,NameKind.free)∉l→cl.lookup x=cs.lookup x):=fun l=>by
 induction l with
 |nil=>exact fun cs _=>⟨cs,rfl,fun x=>⟨fun h=>(nomatch h),fun _=>rfl⟩⟩
 |cons p r ih=>
  obtain ⟨n,k⟩:=p
  intro cs h
  cases hk:k==NameKind.free with
  |true=>
   have hk:=eq_of_beq hk
   subst hk
   refine aR (h n (.head _)) fun c hc=>?_
   refine aD (ih ((n,c)::cs) fun x hx=>h x (.tail _ hx)) fun cl h1 h2=>?_
   refine ⟨cl,?_,fun x=>⟨fun hx=>?_,fun hx=>?_⟩⟩
   ·rw [List.forIn_cons]
    have e:cellOf env n=pure c:=by unfold cellOf;rw [hc]
    simp only [beq_self_eq_true,if_true,e]
    exact h1
   ·by_cases hr:(x,NameKind.free)∈r
    ·exact (h2 x).1 hr
    ·have e:x=n:=(List.mem_cons.mp hx).elim (fun q=>(Prod.mk.inj q).1) fun q=>absurd q hr
     subst e
     rw [(h2 x).2 hr,hc,List.lookup_cons,beq_self_eq_true]
   ·rw [(h2 x).2 fun q=>hx (.tail _ q),List.lookup_cons,beq_eq_false_iff_ne.mpr fun (e:x=n)=>hx (e▸.head _)]
  |false=>
   refine aD (ih cs fun x hx=>h x (.tail _ hx)) fun cl h1 h2=>?_
   refine ⟨cl,?_,fun x=>⟨fun hx=>?_,fun hx=>(h2 x).2 fun q=>hx (.tail _ q)⟩⟩
   ·rw [List.forIn_cons]
    simp only [hk,Bool.false_eq_true,if_false]
    exact h1
   ·rcases List.mem_cons.mp hx with q|q
    ·rw [←(Prod.mk.inj q).2,beq_self_eq_true] at hk;cases hk
    ·exact (h2 x).1 q
theorem jZ {env:Env}(h:∀x,(x,NameKind.free)∈scope.names→∃c,env.cells.lookup x=some c):∃cl,closureFor scope env=pure cl∧∀x,(x,NameKind.free)∈scope.names→cl.lookup x=env.cells.lookup x:=by
 refine aD (yH scope.names [] h) fun cl h1 h2=>?_
 refine ⟨cl,?_,fun x hx=>(h2 x).1 hx⟩
 show (_>>=fun r=>pure r:Sem (List (Str×Addr)))=_
 exact (congrArg (fun m:Sem (List (Str×Addr))=>m>>=fun r=>pure r) h1).trans rfl
end
def AS (M:Model)(A:Around)(env:Env)(target pelt:Expr)(pifs:List Expr)(v:Value)(Q1:Value→Shared→Prop)(Q2:Shared→Prop)(E:Value→Shared→Prop)(s:Shared):Prop:=
 wpAny M A (assign target env v) (fun _ s₂=>wpAny M A (forIn pifs true fun c r=>if r=true then do let ok←isTrue c env (eval c env);pure (ForInStep.yield ok) else pure (ForInStep.yield r))
  (fun ok s₃=>if ok=true then wpAny M A (eval pelt env) Q1 E s₃ else Q2 s₃) E s₂) E s
def abJ (M:Model)(A:Around)(env:Env)(target pelt:Expr)(pifs:List Expr)(it acc:Value)(R:Result→Shared→Prop)(P:Shared→Prop)(E:Value→Shared→Prop)(r:Option Value)(s₁:Shared):Prop:=match r with
 |none=>R (.ok .next) s₁
 |some v=>wpAny M A (letOwnedTupleGo target it v) (fun _ s₂=>AS M A env target pelt pifs v (fun x s₄=>wpAny M A (call (.builtin "list.append") [acc,x]) (fun _ s₅=>P s₅) E s₄) P E s₂) E s₁
theorem yI {prog:Program}{w:World}{A:Around}{s:Shared}{elt target iter:Expr}{ifs:List Expr}{scope:Scope}{pos:Pos}{it acc:Value}{env:Env}{R:Result→Shared→Prop}(I:Nat→Shared→Prop)
  (turn:∀n s E,I n s→wpAny (model prog w) A (pyNext it) (abJ (model prog w) A env target elt ifs it acc R (fun s₅=>∃m,m<n∧I m s₅) E) E s)
  (n:Nat) (h:I n s):codeAny (model prog w) A (.compLoop (.ListComp elt [⟨target,iter,ifs,0⟩] scope pos) 0 it acc env) R s:=by
 refine codeAny_loop rfl I (fun n s hI=>?_) n h
 show wpAny _ A ((compTurn (.ListComp elt [⟨target,iter,ifs,0⟩] scope pos) 0 it acc env).onRaise (fun x=>do noteFrame x env;theTreesLotGoes x)) _ _ s
 refine wpAny_noted ?_
 rw [compTurn_list]
 refine wpAny_bind (wpAny_standAt (wpAny_bind (wpAny_mono (turn n s _ hI) (fun r s₁ h₁=>?_) fun _ _ h'=>h')))
 cases r with
 |none=>exact wpAny_pure h₁
 |some v=>
  refine wpAny_bind (wpAny_mono h₁ (fun _ s₀ h₀'=>wpAny_bind (wpAny_mono h₀' (fun _ s₂ h₂=>wpAny_bind (wpAny_mono h₂ (fun okb s₃ h₃=>?_) fun _ _ h'=>h')) fun _ _ h'=>h')) fun _ _ h'=>h')
  cases okb with
  |false=>exact wpAny_pure ⟨rfl,h₃⟩
  |true=>exact wpAny_bind (wpAny_bind (wpAny_mono h₃ (fun x s₄ h₄=>wpAny_bind (wpAny_mono h₄ (fun _ s₅ h₅=>wpAny_pure (wpAny_pure ⟨rfl,h₅⟩)) fun _ _ h'=>h')) fun _ _ h'=>h'))
section
variable {K:Kx}{B:Bs K}{qs:List Pl}{σ0 σ:Pt}{D:Addr→Prop}{h2:Heap}
theorem fK.poke (G:fK B qs σ0 σ)(hd:∀d,D d→B.out d∧K.N≤d)(hX:∀b o,D b→σ0.s.heap.get? b≠some o)(hqp:∀q∈qs,q∈B.pls)(hk:∀b o,σ.s.heap.get? b=some o→¬D b→h2.get? b=some o)(hl:∀d,D d→∃o,h2.get? d=some o){tk2:Tok}:fK B qs σ0 (σ.to h2 tk2) where
 S:=G.S.poke hd hk hl
 w:=G.w.beside hk hX
 u:=G.u.trans (show Up σ.s (σ.to h2 tk2).s from rfl)
 r:=fun q m v r=>(G.r q m v r).at fun o g=>hk _ o g fun d=>(B.pl q (hqp q m)).2 (hd _ d).1
theorem IB (hd:∀d,D d→B.out d∧K.N≤d){own:sV}{h:Heap}(hk:∀b o,h.get? b=some o→¬D b→h2.get? b=some o)(a:Addr)(o:Obj)(g:gv B own h a o):gv B own h2 a o:=⟨hk a o g.1 fun d=>g.2 (.inl (hd a d).1),g.2⟩
theorem fK.hid (S:dZ B σ0)(G:fK B qs σ0 σ){d:Addr}(q:B.out d∧K.N≤d){o:Obj}(e:σ0.s.heap.get? d=some o):σ.s.heap.get? d=some o:=G.w.hid S q e
end
section
variable {K:Ct}{ns:dL}{Γ:cZ}
structure gP (B:cU K ns Γ)(pair:Bool)(I:Addr)(ds:List Addr)(xs:List V)(Z:Nat→Heap→Gh→Prop)(X:Addr→Prop)(σ0:Pt)(qs:List Pl):Prop where
 src:HW K pair I ds xs Z
 hd:∀d,X d→B.out d∧K.N≤d
 hX:∀b o,X b→σ0.s.heap.get? b≠some o
 sub:∀d∈ds,X d
 qp:∀q∈qs,q∈B.pls
variable {B:cU K ns Γ}{pair:Bool}{I:Addr}{ds:List Addr}{xs:List V}{Z:Nat→Heap→Gh→Prop}{X:Addr→Prop}{σ0 σ:Pt}{qs:List Pl}{i:Nat}{E:Value→Shared→Prop}
theorem gP.next (L:gP B pair I ds xs Z X σ0 qs)(G:fK B.toBs qs σ0 σ)(z:Z i σ.s.heap (gS B.toBs σ)){x:V}(hx:xs[i]? =some x){target:Expr}(ht:HV pair target){Q:Value→Shared→Prop}
  (hp:∀v (h2:Heap) tk2,fK B.toBs qs σ0 (σ.to h2 tk2)→Vl B.toBs (σ.to h2 tk2) v x→(∀σ',fK B.toBs qs (σ.to h2 tk2) σ'→Z (i+1) σ'.s.heap (gS B.toBs σ'))→(∀b o,σ.s.heap.get? b=some o→b∉ds→h2.get? b=some o)→(∀a o,gS B.toBs σ a o→gS B.toBs (σ.to h2 tk2) a o)→Q v (σ.to h2 tk2).s):
  wpAny K.M K.A (pyNext (.ref I)) (fun r s₁=>∃v,r=some v∧wpAny K.M K.A (letOwnedTupleGo target (.ref I) v) (fun _ s₂=>Q v s₂) E s₁) E σ.s:=by
 refine L.src.next i x σ.s (gS B.toBs σ) Q E target hx ht z (mI B.toBs σ) (fun a o g m=>g.2 (.inl (L.hd a (L.sub a m)).1)) fun v h2 tk2 hk z2 hr=>?_
 have hd:∀d,d∈ds→B.out d∧K.N≤d:=fun d m=>L.hd d (L.sub d m)
 have hg:=IB (own:=σ.own) hd hk
 have G2:fK B.toBs qs σ0 (σ.to h2 tk2):=G.poke hd (fun b o m=>L.hX b o (L.sub b m)) L.qp hk (L.src.live _ _ _ z2)
 exact hp v h2 tk2 G2 (hr.mono fun a o g=>g.elim (hg a o) fun g=>⟨g.2,(G.S.fresh (.le g.1)).1⟩) (fun σ' g'=>L.src.mono _ _ _ _ _ z2 (fun a m o e=>g'.hid G2.S (hd a m) e) fun a o g=>g'.g a o (hg a o g)) hk hg
theorem gP.stop (L:gP B pair I ds xs Z X σ0 qs)(S:dZ B.toBs σ)(z:Z xs.length σ.s.heap (gS B.toBs σ)){Q:Option Value→Shared→Prop}
  (hp:∀(h2:Heap) tk2,(∀b o,σ.s.heap.get? b=some o→b∉ds→h2.get? b=some o)→Q none (σ.to h2 tk2).s):wpAny K.M K.A (pyNext (.ref I)) Q E σ.s:=
 L.src.stop σ.s (gS B.toBs σ) Q E z (mI B.toBs σ) (fun a o g m=>g.2 (.inl (L.hd a (L.sub a m)).1)) hp
end
section
variable {K:Ct}{ns:dL}{Γ:cZ}
abbrev rP (K:Ct) (B:cU K ns Γ) (qs:List Pl) (target pelt:Expr) (pifs:List Expr) (RR:List V→Fm→List V→Prop):Prop:=
 ∀(x:V) (r:List V) (σ:Pt) (v:Value) (z:List V) (Q1:Value→Shared→Prop) (Q2:Shared→Prop) (E:Value→Shared→Prop),RR (x::r) σ.ρ z→dZ B.toBs σ→Vl B.toBs σ v x→(∀σ',fK B.toBs qs σ σ'→RR r σ'.ρ z→Q2 σ'.s)→
  (∀σ' u y z',fK B.toBs qs σ σ'→Vl B.toBs σ' u y→z=y::z'→RR r σ'.ρ z'→Q1 u σ'.s)→AS K.M K.A B.env target pelt pifs v Q1 Q2 E σ.s
structure yJ (B:cU K ns Γ)(qs:List Pl)(σ0:Pt)(D:Addr)(xs:List V)(Z:Nat→Heap→Gh→Prop)(RR:List V→Fm→List V→Prop)(zs:List V)(i:Nat)(σ:Pt)(vs:List Value)(n:Nat)(ys r:List V):Prop where
 G:fK B.toBs qs σ0 σ
 z:Z i σ.s.heap (gS B.toBs σ)
 lst:σ.s.heap.get? D=some (bV vs n)
 rp:Vls B.toBs σ vs ys
 len:ys.length≤i
 ev:RR (xs.drop i) σ.ρ r
 zs:ys++r=zs
variable {B:cU K ns Γ}{pair:Bool}{I D:Addr}{ds:List Addr}{xs zs:List V}{Z:Nat→Heap→Gh→Prop}{RR:List V→Fm→List V→Prop}{σ0:Pt}{qs:List Pl}{target pelt iter:Expr}{pifs:List Expr}{scope:Scope}{pos:Pos}{R:Result→Shared→Prop}
theorem DS (L:gP B pair I ds xs Z (fun d=>d=D∨d∈ds) σ0 qs)(hDds:D∉ds)(ht:HV pair target)(turn:rP K B qs target pelt pifs RR)(hsz:xs.length≤jA){i:Nat}{σ:Pt}{vs:List Value}{n:Nat}{ys r:List V}(c:yJ B qs σ0 D xs Z RR zs i σ vs n ys r)(hlt:i<xs.length)
  {P:Shared→Prop} (hP:∀σ' vs' n' ys' r',yJ B qs σ0 D xs Z RR zs (i+1) σ' vs' n' ys' r'→P σ'.s) {E:Value→Shared→Prop}:
  wpAny K.M K.A (pyNext (.ref I)) (abJ K.M K.A B.env target pelt pifs (.ref I) (.ref D) R P E) E σ.s:=by
 refine wpAny_mono (L.next (Q:=fun v s₂=>AS K.M K.A B.env target pelt pifs v (fun x s₄=>wpAny K.M K.A (call (.builtin "list.append") [.ref D,x]) (fun _ s₅=>P s₅) E s₄) P E s₂) c.G c.z (List.getElem?_eq_getElem hlt) ht fun v h2 tk2 G2 hv hz hk hg=>?_) (fun r s₁ h₁=>h₁.elim fun v q=>q.1▸q.2) fun _ _ e=>e
 have hDo:=L.hd D (.inl rfl)
 have ev:=c.ev
 rw [List.drop_eq_getElem_cons hlt] at ev
 refine turn _ _ (σ.to h2 tk2) v r _ _ _ ev G2.S hv (fun σ' g e=>hP σ' vs n ys r ⟨G2.trans g,hz σ' g,g.hid G2.S hDo (hk D _ c.lst hDds),bJ.mono c.rp fun a o q=>g.g a o (hg a o q),Nat.le_succ_of_le c.len,e,c.zs⟩)
  fun σ' u y z' g hu e1 e2=>?_
 subst e1
 refine append_at (s:=σ'.s) (g.hid G2.S hDo (hk D _ c.lst hDds)) (fun h3 hs hD3=>?_) ?_
 ·have hk3:∀b o,σ'.s.heap.get? b=some o→¬b=D→h3.get? b=some o:=fun b o e n=>(hs.2 b n).trans e
  have hd3:∀d,d=D→B.out d∧K.N≤d:=fun d e=>e▸hDo
  have g3:=IB (own:=σ'.own) hd3 hk3
  have G3:=(G2.trans g).poke (tk2:=σ'.s.toks) hd3 (fun b o e=>L.hX b o (.inl e)) L.qp hk3 fun d e=>⟨_,(show d=D from e)▸hD3⟩
  refine hP (σ'.to h3 σ'.s.toks) (vs++[u]) (n+1) (ys++[y]) z' ⟨G3,?_,?_,?_,?_,e2,?_⟩
  ·exact L.src.mono _ _ _ _ _ (hz σ' g) (fun a m o e=>hk3 a o e fun q=>hDds (q▸m)) g3
  ·refine (Eq.symm (show bV (vs++[u]) (n+1)={cls:=.type "list",data:=.seq (vs.toArray.push u) (n+1)} from by unfold bV;rw [List.push_toArray]))▸?_;exact hD3
  ·exact bJ.append (bJ.cons (hu.mono g3) bJ.nil) (bJ.mono c.rp fun a o q=>g3 a o (g.g a o (hg a o q)))
  ·refine (Eq.symm List.length_append)▸?_;exact Nat.succ_le_succ c.len
  ·rw [List.append_assoc];exact c.zs
 ·refine (Eq.symm List.size_toArray)▸?_;refine (Eq.symm (bJ.length c.rp))▸?_
  exact eX (Nat.ble_eq.mpr (Nat.le_trans c.len (Nat.le_trans (Nat.le_of_lt hlt) hsz)))
def abK (B:cU K ns Γ)(qs:List Pl)(σ0:Pt)(D:Addr)(xs:List V)(Z:Nat→Heap→Gh→Prop)(RR:List V→Fm→List V→Prop)(zs:List V)(k:Nat)(s:Shared):Prop:=
 ∃i σ vs n ys r,s=Pt.s σ∧i≤xs.length∧k=xs.length - i∧yJ B qs σ0 D xs Z RR zs i σ vs n ys r
theorem DT (L:gP B pair I ds xs Z (fun d=>d=D∨d∈ds) σ0 qs)(hDds:D∉ds)(ht:HV pair target)(turn:rP K B qs target pelt pifs RR)(hnil:∀ρ r,RR [] ρ r→r=[])(hsz:xs.length≤jA){σ:Pt}{n0:Nat}(G:fK B.toBs qs σ0 σ)(z:Z 0 σ.s.heap (gS B.toBs σ))
  (hD:σ.s.heap.get? D=some (bV [] n0)) (hev:RR xs σ.ρ zs)
  (hR:∀σ' (h2:Heap) tk2 vs n,fK B.toBs qs σ0 σ'→(∀b o,σ'.s.heap.get? b=some o→b∉ds→h2.get? b=some o)→h2.get? D=some (bV vs n)→Vls B.toBs σ' vs zs→RR [] σ'.ρ []→R (.ok .next) (σ'.to h2 tk2).s):
  codeAny K.M K.A (.compLoop (.ListComp pelt [⟨target,iter,pifs,0⟩] scope pos) 0 (.ref I) (.ref D) B.env) R σ.s:=by
 refine yI (abK B qs σ0 D xs Z RR zs) (fun k s' E hI=>?_) xs.length (ei6 0 σ [] n0 [] zs ⟨rfl,Nat.zero_le _,rfl,⟨G,z,hD,bJ.nil,Nat.le_refl _,hev,rfl⟩⟩)
 refine aa3 hI fun i σ' vs n ys r ag8 hi ag9 c=>?_;subst ag8;subst ag9
 rcases Nat.lt_or_ge i xs.length with hlt|hge
 ·exact DS L hDds ht turn hsz c hlt fun σ2 vs2 n2 ys2 r2 c2=>⟨xs.length - (i+1),Nat.sub_succ_lt_self _ _ hlt,i+1,σ2,vs2,n2,ys2,r2,rfl,hlt,rfl,c2⟩
 ·have e:i=xs.length:=Nat.le_antisymm hi hge
  subst e
  have ev:=c.ev
  rw [List.drop_length] at ev
  cases hnil _ _ ev
  refine L.stop c.G.S c.z fun h2 tk2 hk2=>hR σ' h2 tk2 vs n c.G hk2 (hk2 D _ c.lst hDds) ?_ ev
  rw [←c.zs,List.append_nil];exact c.rp
theorem rQ {idx:List Nat}{ifs:List Internal.E}(ht:jG K Γ pair idx target)(hts:jH K ns Γ ifs pifs)(hq:∀i∈idx,∀q∈qs,B.pls[i]? ≠some q)(hqp:∀q∈qs,q∈B.pls){σ:Pt}{v:Value}{x:V}{β:Type}{kt:V→Fm→Option β}{z:β}{ρb:Fm}(S:dZ B.toBs σ)(hv:Vl B.toBs σ v x)(e1:bE idx x σ.ρ some=some ρb)
  (hb:∀x ρ,kt x ρ=some z→∃t,x=.bool t) (e2:cM K.C Internal.glb ifs β ρb kt=some z) {Q1:Value→Shared→Prop} {Q2:Shared→Prop} {E:Value→Shared→Prop}
  (h0:∀σ',fK B.toBs qs σ σ'→(aK ifs=true→σ'.ρ=ρb)→kt (.bool false) σ'.ρ=some z→Q2 σ'.s) (h1:∀σ',fK B.toBs qs σ σ'→(aK ifs=true→σ'.ρ=ρb)→kt (.bool true) σ'.ρ=some z→wpAny K.M K.A (eval pelt B.env) Q1 E σ'.s):
  AS K.M K.A B.env target pelt pifs v Q1 Q2 E σ.s:=
 nD ht S hv hq e1 fun σ1 g1 k1=>by
  cases k1
  refine IA hts hb g1.S e2 fun σ2 c g2 k2=>?_
  cases c with
  |true=>exact h1 σ2 (g1.trans (g2.gos hqp)) g2.p k2
  |false=>exact h0 σ2 (g1.trans (g2.gos hqp)) g2.p k2
end
section
variable {K:Ct}{ns:dL}{Γ:cZ}
inductive mJ:Bool→Expr→List Str→Prop
 |one {x p}:mJ false (.Name x p) [x]
 |two {x y p q k r}:mJ true (.Tuple [.Name x p,.Name y q] k r) [x,y]
theorem mJ.ne {pair target vars}(h:mJ pair target vars):vars≠[]:=by cases h<;>nofun
theorem DU {scope:Scope}{vars:List Str}{i:Nat}{x:Str}(h:vars[i]? =some x):(cN Γ scope vars)[Γ.length+i]? =some (some x):=by
 unfold cN
 rw [List.getElem?_append_right (by rw [List.length_map];exact Nat.le_add_right _ _),List.length_map,Nat.add_sub_cancel_left,List.getElem?_map,h];rfl
theorem mJ.is {pair target vars}(h:mJ pair target vars){scope:Scope}(h0:0<Γ.length):jG K (cN Γ scope vars) pair ((List.range vars.length).map (Γ.length+ ·)) target:=by
 have tg:∀(i:Nat) (x:Str),vars[i]? =some x→Tg K (cN Γ scope vars) (Γ.length+i) x:=fun i x e=>⟨DU e,.inr fun q=>absurd h0 (Nat.not_lt.mpr (q▸Nat.le_add_right _ _))⟩
 cases h with
 |one=>exact .one (tg 0 _ rfl)
 |two=>exact .two (.cons (tg 0 _ rfl) (.cons (tg 1 _ rfl) .nil))
theorem tK {α:Type}{l m:List α}{i:Nat}{x:α}:(l++m).set (l.length+i) x=l++m.set i x:=by
 rw [List.set_append_right _ _ (Nat.le_add_right _ _),Nat.add_sub_cancel_left]
theorem PW {α:Type}{l:List α}(h:l.length=2):∃a b,l=[a,b]:=by
 cases l with
 |nil=>cases h
 |cons a l=>cases l with
  |nil=>cases h
  |cons b l=>cases l with
   |nil=>exact bM a b rfl
   |cons _ _=>exact absurd (Nat.succ.inj (Nat.succ.inj h)) (Nat.succ_ne_zero _)
theorem PY {β:Type}{nv:Nat}{x:V}{k:List aE→Option β}{z:β}{ρ bs0:Fm}(h:fX nv x k=some z)(hl:bs0.length=nv):∃bs,bs.length=nv∧k bs=some z∧bE ((List.range nv).map (ρ.length+ ·)) x (ρ++bs0) some=some (ρ++bs):=by
 cases nv with
 |zero=>exact no h
 |succ nv=>cases nv with
  |zero=>
   refine aR (List.length_eq_one_iff.mp hl) fun s ag2=>?_;subst ag2
   exact ⟨[.v x],rfl,h,congrArg some (tK (i:=0))⟩
  |succ nv=>cases nv with
   |succ _=>exact no h
   |zero=>
    refine bA (PW hl) fun s t ag3=>?_;subst ag3
    cases x with
    |tup l=>
     refine aF (abI (show fF 2 l (fun l=>k (l.map .v))=some z from h)) fun e1 e2=>?_
     refine bA (PW e1) fun a b ag4=>?_;subst ag4
     refine ⟨_,rfl,e2,congrArg some ?_⟩
     show ((ρ++[s,t]).set (ρ.length+0) (.v a)).set (ρ.length+1) (.v b)=_
     refine (Eq.symm tK)▸?_;refine (Eq.symm tK)▸?_;rfl
    |_=>exact no h
noncomputable def ktK (C:CF)(elt:Internal.E)(q:Option V→Fm→Option (List V×Fm))(t:V)(τ:Fm):Option (List V×Fm):=dG t fun c=>cond c (kE C Internal.glb elt _ τ fun y σ=>q (some y) σ) (q none τ)
noncomputable def ktP (C:CF)(elt:Internal.E)(ρb:Fm)(t:V)(_:Fm):Option (Option V):=dG t fun c=>cond c (kE C Internal.glb elt _ ρb fun y _=>some (some y)) (some none)
theorem abL {C:CF}{elt:Internal.E}{q:Option V→Fm→Option (List V×Fm)}{z:List V×Fm}(x:V)(ρ:Fm)(h:ktK C elt q x ρ=some z):∃t,x=.bool t:=dU (M:=fun x=>∃t,x=.bool t) h fun t _=>⟨t,rfl⟩
theorem abM {C:CF}{elt:Internal.E}{ρb:Fm}{z:Option V}(x:V)(ρ:Fm)(h:ktP C elt ρb x ρ=some z):∃t,x=.bool t:=dU (M:=fun x=>∃t,x=.bool t) h fun t _=>⟨t,rfl⟩
noncomputable def UE (C:CF)(idx:List Nat)(ifs:List Internal.E)(elt:Internal.E)(l:List V)(ρ:Fm):Option (List V×Fm):=rA (fun x σ=>bE idx x σ some) (fun σ q=>cM C Internal.glb ifs _ σ (ktK C elt q)) l ρ
noncomputable def abN (C:CF)(nv:Nat)(ifs:List Internal.E)(elt:Internal.E)(ρ1:Fm)(l:List V):Option (List V):=xM (fun x=>fX nv x fun bs=>cM C Internal.glb ifs _ (ρ1++bs) (ktP C elt (ρ1++bs))) l
def RRk (C:CF)(idx:List Nat)(ifs:List Internal.E)(elt:Internal.E)(ρe:Fm)(l:List V)(ρ:Fm)(z:List V):Prop:=UE C idx ifs elt l ρ=some (z,ρe)
def RRp (C:CF)(nv:Nat)(ifs:List Internal.E)(elt:Internal.E)(ρ1:Fm)(l:List V)(ρ:Fm)(z:List V):Prop:=(∃bs,ρ=ρ1++bs∧bs.length=nv)∧abN C nv ifs elt ρ1 l=some z
noncomputable def abO (o:Option V)(z:List V):List V:=match o with
 |some y=>y::z
 |none=>z
noncomputable def IC (C:CF)(idx:List Nat)(ifs:List Internal.E)(elt:Internal.E)(l:List V)(o:Option V)(ρ:Fm):Option (List V×Fm):=(UE C idx ifs elt l ρ).bind fun z=>some (abO o z.1,z.2)
theorem ID {C:CF}{idx:List Nat}{ifs:List Internal.E}{elt:Internal.E}{ρe ρ:Fm}{x:V}{l z:List V}(h:RRk C idx ifs elt ρe (x::l) ρ z):∃ρb,bE idx x ρ some=some ρb∧cM C Internal.glb ifs _ ρb (ktK C elt (IC C idx ifs elt l))=some (z,ρe):=aO h
theorem pK {C:CF}{idx:List Nat}{ifs:List Internal.E}{elt:Internal.E}{ρe ρ:Fm}{o:Option V}{l z:List V}(h:IC C idx ifs elt l o ρ=some (z,ρe)):∃z',RRk C idx ifs elt ρe l ρ z'∧z=abO o z':=by
 refine aD (aO h) fun ag5 e3 e4=>?_;obtain ⟨z',ρ'⟩:=ag5
 cases e4
 exact ⟨z',e3,rfl⟩
section
variable {B:cU K ns Γ}{qs:List Pl}{pair:Bool}{target pelt:Expr}{pifs:List Expr}{ifs:List Internal.E}{elt:Internal.E}(hts:jH K ns Γ ifs pifs)(hqp:∀q∈qs,q∈B.pls)(helt:bC K ns Γ elt pelt)
include hts hqp helt
theorem WH {idx:List Nat}{ρe:Fm}(ht:jG K Γ pair idx target)(hq:∀i∈idx,∀q∈qs,B.pls[i]? ≠some q):rP K B qs target pelt pifs (RRk K.C idx ifs elt ρe):=
 fun x r σ v z Q1 Q2 E hev S hv h0 h1=>by
  refine aD (ID hev) fun ρb e1 e2=>?_
  refine rQ ht hts hq hqp S hv e1 abL e2 (fun σ1 g1 _ k1=>?_) fun σ1 g1 _ k1=>?_
  ·refine aD (pK (o:=none) k1) fun z' e3 ag6=>?_;subst ag6
   exact h0 σ1 g1 e3
  ·refine helt B σ1 _ (fun y σ=>IC K.C idx ifs elt r (some y) σ) _ Q1 E g1.S k1 fun σ2 u y g2 r2 k2=>?_
   refine aD (pK k2) fun z' e3 e4=>?_
   exact h1 σ2 u y z' (g1.trans (g2.gos hqp)) r2 e4 e3
theorem WI {ρ1:Fm}{nv:Nat}(ht:jG K Γ pair ((List.range nv).map (ρ1.length+ ·)) target)(hq:∀i∈(List.range nv).map (ρ1.length+ ·),∀q∈qs,B.pls[i]? ≠some q)(hp1:aK ifs=true)(hp2:aJ elt=true):rP K B qs target pelt pifs (RRp K.C nv ifs elt ρ1):=
 fun x r σ v z Q1 Q2 E hev S hv h0 h1=>by
  refine eS fun gG gH=>?_;refine aF hev fun ag7 hev=>?_;obtain ⟨bs0,e0,l0⟩:=ag7
  refine aD (aO hev) fun o e1 e2=>?_
  refine eM (PY (ρ:=ρ1) e1 l0) fun bs l1 e3 e4=>?_
  refine gH ?_;refine rQ ht hts hq hqp S hv (e0▸e4) abM e3 (fun σ1 g1 p1 k1=>?_) fun σ1 g1 p1 k1=>?_
  ·cases k1
   exact h0 σ1 g1 ⟨⟨bs,p1 hp1,l1⟩,e2⟩
  ·refine helt B σ1 _ (fun y _=>some (some y)) _ Q1 E g1.S (by rw [p1 hp1];exact k1) fun σ2 u y g2 r2 k2=>?_
   cases k2
   refine aD (aO e2) fun z' e5 e6=>?_
   cases e6
   exact h1 σ2 u y z' (g1.trans (g2.gos hqp)) r2 rfl ⟨⟨bs,(g2.p hp2).trans (p1 hp1),l1⟩,e5⟩
end
end
section
variable {K:Ct}{ns:dL}{Γ:cZ}
structure lQ (B:cU K ns Γ)(σ:Pt)(zs:List V)(C:Addr)(hd:∀d,d=C→K.N≤d∧¬cQ B.pls d)(σe:Pt)(v:Value):Prop where
 S:dZ (B.toBs.hide (fun d=>d=C) hd) σe
 w:Gw K.kx B.pls σ.own σ.s.heap σe.own σe.s.heap
 r:∀q∈B.pls,∀v,rd σ.s.heap q v→rd σe.s.heap q v
 u:Up σ.s σe.s
 v:Rp K.w.params (gS (B.toBs.hide (fun d=>d=C) hd) σe) v (.lst zs)
 n:∃m,σe.s.heap.Ns C m
 f:∀o,σ.s.heap.get? C≠some o
 oC:¬B.out C
variable {scope:Scope}{vars:List Str}{pair:Bool}{target pelt iter:Expr}{pifs:List Expr}{pos:Pos}{cl:List (Str×Addr)}
theorem PZ (htv:mJ pair target vars)(F:bY ns Γ scope vars){B:cU K ns Γ}(hcx:∀x,(x,NameKind.free)∈scope.names→cl.lookup x=B.env.cells.lookup x){σ1:Pt}(S:dZ B.toBs σ1){h2 H h3:Heap}{tk3:Tok}{C D I:Addr}{ds:List Addr}{xs zs:List V}{Z:Nat→Heap→Gh→Prop}{m:Str→Option Value}
  {n0:Nat} {RR:List V→Fm→List V→Prop} (hk:iG σ1.s.heap h2) (hkH:iG h2 H) (hds:∀d∈ds,cG σ1.s.heap d) (hD2:h2.objs.size≤D) (hC:H.objs.size≤C) (hkC:iG H h3) (hns:h3.Ns C m) (hD:H.get? D=some (bV [] n0)) (hsrc:HW K pair I ds xs Z) (z0:Z 0 h2 (gS B.toBs σ1))
  (turn:∀B':cU K scope.names (cN Γ scope vars),(∀i∈(List.range vars.length).map (Γ.length+ ·),∀q∈B.pls,B'.pls[i]? ≠some q)→(∀q∈B.pls,q∈B'.pls)→rP K B' B.pls target pelt pifs RR) (hnil:∀ρ r,RR [] ρ r→r=[]) (hsz:xs.length≤jA) (hev:RR xs (σ1.ρ++List.replicate vars.length .un) zs) {R:Result→Shared→Prop}
  (fin:∀hd σe ρe,lQ B σ1 zs C hd σe (.ref D)→RR [] ρe []→σe.ρ=ρe.take B.pls.length→R (.ok .next) σe.s):
  codeAny K.M K.A (.compLoop (.ListComp pelt [⟨target,iter,pifs,0⟩] scope pos) 0 (.ref I) (.ref D) (compEnvC scope cl C B.env)) R {σ1.s with heap:=h3,toks:=tk3}:=by
 have f:∀d,(d=D∨d∈ds)→cG σ1.s.heap d:=fun d e=>e.elim (fun e=>e▸⟨h2,hk,hD2⟩) (hds d)
 have hd1:=S.hd f
 have off:∀d,(d=D∨d∈ds)→¬B.out d:=fun d e x=>(S.fresh (f d e)).1 (.inl x)
 have k1H:iG σ1.s.heap H:=fun a o e=>hkH a o (hk a o e)
 have k13:iG σ1.s.heap h3:=fun a o e=>hkC a o (k1H a o e)
 have hl2:=hsrc.live _ _ _ z0
 have hDds:D∉ds:=fun q=>aR (hl2 D q) fun _ e=>absurd (Heap.lt_size e) (Nat.not_lt.mpr hD2)
 have S1:=S.hide k1H f hd1 fun d e=>e.elim (fun e=>⟨_,e▸hD⟩) fun e=>(hl2 d e).imp fun o q=>hkH _ _ q
 have fC:cG H C:=.le hC
 have hCx:=S1.fresh fC
 have nC:K.N≤C∧¬(B.toBs.hide _ hd1).out C∧¬cQ (B.toBs.hide _ hd1).pls C:=⟨hCx.2.1,fun x=>hCx.1 (.inl x),fun x=>hCx.1 (.inr (.inl x))⟩
 have nC0:K.N≤C∧¬B.out C∧¬cQ B.pls C:=⟨nC.1,fun x=>nC.2.1 (.inl x),nC.2.2⟩
 refine aF (S1.wide (hC:=nC) (hv:=F.nd) hkC fC hns) fun S2 g2=>?_
 have hCnot:∀o,σ1.s.heap.get? C≠some o:=fun o e=>fC.none (k1H _ _ e)
 let B2:=(B.hide _ hd1).comp C F nC hcx
 let own0:sV:=σ1.own++List.replicate vars.length none
 let ρ0:Fm:=σ1.ρ++List.replicate vars.length .un
 have L:gP B2 pair I ds xs Z (fun d=>d=D∨d∈ds) ⟨own0,ρ0,σ1.s⟩ B.pls:=⟨hsrc,fun d q=>⟨.inr q,(hd1 d q).1⟩,fun b o q e=>(f b q).none e,fun d=>.inr,fun q=>List.mem_append_left _⟩
 have h0:0<Γ.length:=B.ok.len▸List.length_pos_iff.mpr B.ne
 refine DT (B:=B2) (σ:=⟨own0,ρ0,{σ1.s with heap:=h3,toks:=tk3}⟩) L hDds (htv.is (K:=K) (scope:=scope) h0).p (turn B2 (fun i hi q hq e=>?_) L.qp) hnil hsz ⟨S2,.ext k13,rfl,fun q _ v r=>r.at fun o=>k13 _ o⟩
  (hsrc.mono _ _ _ _ _ z0 (fun a _ o e=>hkC a o (hkH a o e)) fun a o g=>g2 a o (sW k1H f hd1 a o g)) (hkC _ _ hD) hev fun σ' h4 tk4 vs n G hk4 hD4 hv hrr=>?_
 ·refine aD (List.mem_map.mp hi) fun j _ ahA=>?_;subst ahA
  replace e:(B.pls++vars.map (.loc C))[Γ.length+j]? =some q:=e
  rw [List.getElem?_append_right (B.ok.len▸Nat.le_add_right _ _)] at e
  refine aD (List.mem_map.mp (List.mem_of_getElem? e)) fun y _ ahB=>?_;subst ahB
  exact nC0.2.2 ⟨_,hq,rfl⟩
 ·have hdd:∀d,d∈ds→B2.out d∧K.N≤d:=fun d q=>L.hd d (.inr q)
  have S4:St (B.toBs.wide C vars nC0 F.nd) σ'.own σ'.ρ h4:=G.S.less (B':=B.toBs.wide C vars nC0 F.nd) rfl (fun _=>.inl) hdd hk4 fun d q x=>absurd x (off d (.inr q))
  have hd5:∀d,d=C→K.N≤d∧¬cQ B.pls d:=fun d e=>e▸⟨nC0.1,nC0.2.2⟩
  have S5:=S4.narrow htv.ne (hd:=hd5)
  have hg:∀a o,gS B2.toBs σ' a o→gv (B.toBs.hide (fun d=>d=C) hd5) (σ'.own.take B.pls.length) h4 a o:=fun a o g=>oX (hC:=nC0) (hv:=F.nd) htv.ne a o (sX (B:=B2.toBs) (B':=B.toBs.wide C vars nC0 F.nd) rfl (fun _=>.inl) hdd hk4 a o g)
  refine aR (List.exists_mem_of_ne_nil vars htv.ne) fun y hy=>?_
  refine fin hd5 ⟨σ'.own.take B.pls.length,σ'.ρ.take B.pls.length,(σ'.to h4 tk4).s⟩ σ'.ρ ⟨S5,(G.w.beside hk4 fun b o q e=>(f b (.inr q)).none e).narrow (B:=B.toBs) hCnot,fun q hq v r=>(G.r q hq v r).at fun o e=>hk4 _ o e fun x=>(hd1 _ (.inr x)).2 ⟨q,hq,rfl⟩,?_,(gE D vs n ⟨rfl,⟨hD4,?_⟩,bJ.mono hv hg⟩),
   S4.plLive (p:=.loc C y) (List.mem_append_right _ (List.mem_map_of_mem hy)),hCnot,nC0.2.1⟩ hrr rfl
  ·exact G.u.trans (show Up σ'.s (σ'.to h4 tk4).s from rfl)
  ·rintro (x|x|x)
   ·exact x.elim (off D (.inl rfl)) fun e=>fC.none (e▸hD)
   ·exact (hd1 D (.inl rfl)).2 x
   ·exact (G.S.ownX (List.mem_of_mem_take x)).2.2.2.elim (fun y=>y.2 (.inr (.inl rfl))) fun y=>absurd (B.ioN D y).1 (Nat.not_lt.mpr (hd1 D (.inl rfl)).1)
end
section
variable {K:Ct}{ns:dL}{Γ:cZ}{scope:Scope}{vars:List Str}{pair:Bool}{sr:Sr}{target pelt iter:Expr}{pifs:List Expr}{ifs:List Internal.E}{elt:Internal.E}{pos p':Pos}
abbrev QA (K:Ct) (B:cU K ns Γ) (scope:Scope) (vars:List Str) (target pelt:Expr) (pifs:List Expr) (RR:List V→Fm→List V→Prop):Prop:=
 ∀B':cU K scope.names (cN Γ scope vars),(∀i∈(List.range vars.length).map (Γ.length+ ·),∀q∈B.pls,B'.pls[i]? ≠some q)→(∀q∈B.pls,q∈B'.pls)→rP K B' B.pls target pelt pifs RR
structure WJ (B:cU K ns Γ)(σ1:Pt)(scope:Scope)(vars:List Str)(target pelt:Expr)(pifs:List Expr)(xs zs:List V)(RR:List V→Fm→List V→Prop):Prop where
 turn:QA K B scope vars target pelt pifs RR
 nil:∀ρ r,RR [] ρ r→r=[]
 sz:xs.length≤jA
 ev:RR xs (σ1.ρ++List.replicate vars.length .un) zs
theorem AT (hs:fD K ns Γ pair sr iter)(htv:mJ pair target vars)(F:bY ns Γ scope vars){B:cU K ns Γ}{σ:Pt}{β:Type}{kk:List V→Fm→Option β}{z:β}(S:dZ B.toBs σ)(hev:gJ K.C Internal.glb sr β σ.ρ kk=some z){use:Option (Value→Sem Unit)}{Q:Value→Shared→Prop}{E:Value→Shared→Prop}
  (go:∀xs σ1,cV B.toBs false σ σ1→kk xs σ1.ρ=some z→∃zs RR,WJ B σ1 scope vars target pelt pifs xs zs RR∧∀C hd σe v ρe,lQ B σ1 zs C hd σe v→RR [] ρe []→σe.ρ=ρe.take B.pls.length→compPost K.M K.A E use Q v C (.ok .next) σe.s):
  wpAny K.M K.A (comprehension (.ListComp pelt [⟨target,iter,pifs,0⟩] scope pos) scope B.env p' (newList []) false (eval iter B.env) use) Q E σ.s:=by
 refine aD (jZ (scope:=scope) (env:=B.env) fun x hx=>B.cellAt (F.free x hx).1 (F.free x hx).2) fun cl hcl hcx=>?_
 refine wpAny_comprehension_free (use:=use) rfl (rJ (hs.plain hev) B.env) hcl F.kind F.loc (hs.ev B σ β kk z _ E S hev fun σ1 h2 tk2 I ds Z xs g1 hk hds hsrc z0 k1=>?_)
 refine cF (go xs σ1 g1 k1) fun zs RR c fin=>?_
 refine wpAny_newObj_type (wpAny_newFunctionEnv F.ncell (fun _ h=>absurd h List.not_mem_nil) (fun h3 hns hsb=>?_) F.kind)
 have hkH:iG h2 (h2.push (bV [] 0)):=bB
 have hkC:iG (h2.push (bV [] 0)) h3:=fun b o e=>(hsb.2 b fun q=>absurd (Heap.lt_size e) (by refine (Eq.symm q)▸?_;exact Nat.lt_irrefl _)).trans (Heap.get?_push_of_some _ e)
 have loop:=PZ (cl:=cl) (pelt:=pelt) (pifs:=pifs) (pos:=pos) (iter:=iter) htv F hcx g1.S hk hkH hds (Nat.le_refl _) (Nat.le_refl _) hkC hns (Heap.get?_push_size _ rfl) hsrc z0 c.turn c.nil c.sz c.ev (R:=compPost K.M K.A E use Q (.ref h2.objs.size) (h2.push (bV [] 0)).objs.size) (tk3:=tk2) fun hd σe ρe f e1 e2=>fin _ hd σe _ ρe f e1 e2
 exact codeAny_compStart_list loop (hsrc.self 0 _ _ _ _ (hsrc.mono _ _ _ _ _ z0 (fun a _ o e=>hkC a o (hkH a o e)) fun _ _ g=>g) loop)
theorem vS (hs:fD K ns Γ pair sr iter)(hts:jH K scope.names (cN Γ scope vars) ifs pifs)(helt:bC K scope.names (cN Γ scope vars) elt pelt)(htv:mJ pair target vars)(F:bY ns Γ scope vars){B:cU K ns Γ}{σ:Pt}{β:Type}{k:V→Fm→Option β}{z:β}(S:dZ B.toBs σ)
  (hev:kE K.C Internal.glb (.comp vars.length sr ifs elt) β σ.ρ k=some z) {use:Option (Value→Sem Unit)} {Q:Value→Shared→Prop} {E:Value→Shared→Prop}
  (fin:∀σ1 zs C hd σe v,cV B.toBs false σ σ1→lQ B σ1 zs C hd σe v→k (.lst zs) σe.ρ=some z→compPost K.M K.A E use Q v C (.ok .next) σe.s):
  wpAny K.M K.A (comprehension (.ListComp pelt [⟨target,iter,pifs,0⟩] scope pos) scope B.env p' (newList []) false (eval iter B.env) use) Q E σ.s:=by
 have h0:0<Γ.length:=B.ok.len▸List.length_pos_iff.mpr B.ne
 have len:∀{σ1:Pt},dZ B.toBs σ1→σ1.ρ.length=B.pls.length:=fun S=>S.lenP.symm
 have htg:=htv.is (K:=K) (scope:=scope) h0
 cases hc:aK ifs && aJ elt with
 |true=>
  refine aF (eY hc) fun q1 q2=>?_
  replace hev:cond (aK ifs && aJ elt) _ _=some z:=hev
  rw [hc] at hev
  refine AT hs htv F S hev fun xs σ1 g1 k1=>?_
  refine aD (aO k1) fun zs e1 k1=>?_
  refine aF (aA k1) fun e2 k1=>?_
  have lG:Γ.length=σ1.ρ.length:=B.ok.len.trans g1.S.lenP
  refine (bM zs (RRp K.C vars.length ifs elt σ1.ρ) ⟨⟨fun B' hq hqp=>WI (pair:=pair) hts hqp helt (lG▸htg) (lG▸hq) q1 q2,fun ρ r h=>(Option.some.inj h.2).symm,Nat.le_trans (Nat.le_of_ble_eq_true e2) (by decide),⟨⟨_,rfl,List.length_replicate⟩,e1⟩⟩,fun C hd σe v ρe f h e=>fin σ1 zs C hd σe v g1 f ?_⟩)
  refine aF h fun ahC _=>?_;obtain ⟨bs,rfl,_⟩:=ahC
  refine (Eq.symm e)▸?_;refine (len g1.S)▸?_;refine (Eq.symm List.take_left)▸?_
  exact (aA k1).2
 |false=>
  replace hev:cond (aK ifs && aJ elt) _ _=some z:=hev
  rw [hc] at hev
  refine AT hs htv F S hev fun xs σ1 g1 k1=>?_
  refine aD (aO k1) fun ahD e1 k1=>?_;obtain ⟨zs,ρe⟩:=ahD
  refine aF (aA k1) fun e2 k1=>?_
  have lG:Γ.length=σ.ρ.length:=B.ok.len.trans S.lenP
  refine (bM zs (RRk K.C ((List.range vars.length).map (σ.ρ.length+ ·)) ifs elt ρe) ⟨⟨fun B' hq hqp=>WH hts hqp helt (lG▸htg) (lG▸hq),fun ρ r h=>(Prod.mk.inj (Option.some.inj h)).1.symm,Nat.le_trans (Nat.le_of_ble_eq_true e2) (by decide),e1⟩,fun C hd σe v ρ' f h e=>fin σ1 zs C hd σe v g1 f ?_⟩)
  have h:some ([],ρ')=some (([]:List V),ρe):=h
  cases h
  refine (Eq.symm e)▸?_;refine (len S)▸?_
  exact (hZ k1).2
theorem lQ.out {B:cU K ns Γ}{σ1 σe:Pt}{zs:List V}{C:Addr}{hd:∀d,d=C→K.N≤d∧¬cQ B.pls d}{v:Value}(f:lQ B σ1 zs C hd σe v){h':Heap}(hs:Heap.SameBut C σe.s.heap h'):cV B.toBs false σ1 (σe.to h' σe.s.toks)∧Vl B.toBs (σe.to h' σe.s.toks) v (.lst zs):=
 have hk:∀b o,σe.s.heap.get? b=some o→¬b=C→h'.get? b=some o:=fun b o e n=>(hs.2 b n).trans e
 ⟨⟨f.S.unhide (fun d e=>e▸f.oC) hk,⟨f.w.beside hk fun b o e=>e▸f.f o,fun p hp v r=>(f.r p hp v r).at fun o e=>hk _ o e fun q=>(hd _ q).2 ⟨p,hp,rfl⟩⟩,f.u.trans (show Up σe.s (σe.to h' σe.s.toks).s from rfl),fun e=>nomatch e⟩,f.v.mono (oW (hd:=hd) hk)⟩
theorem vT {nv:Nat}(hnv:nv=vars.length)(hs:fD K ns Γ pair sr iter)(hts:jH K scope.names (cN Γ scope vars) ifs pifs)(helt:bC K scope.names (cN Γ scope vars) elt pelt)(htv:mJ pair target vars)(F:bY ns Γ scope vars):
  bC K ns Γ (.comp nv sr ifs elt) (.ListComp pelt [⟨target,iter,pifs,0⟩] scope pos):=fun B σ β k z Q E S hev hp=>by
 subst hnv
 rw [eval_ListComp]
 exact vS hs hts helt htv F S hev fun σ1 zs C hd σe v g1 f k1=>f.n.imp fun m hn=>⟨hn,fun h'' hs''=>let o:=f.out hs'';hp _ _ _ (g1.trans o.1) o.2 k1⟩
end
section
variable (K:Ct)(ns:dL)(Γ:cZ)
def fN (st:Internal.S)(pst:Stmt):Prop:=∀(B:cU K ns Γ) (σ:Pt) (β:Type) (k:Fm→Option β) (q:V→Fm→Option β) (z:β) (Q:Flow→Shared→Prop) (E:Value→Shared→Prop),dZ B.toBs σ→kS K.C Internal.glb st β σ.ρ k q=some z→
 (∀σ',fK B.toBs [] σ σ'→k σ'.ρ=some z→Q .next σ'.s)→(∀σ' v x,fK B.toBs [] σ σ'→Vl B.toBs σ' v x→q x σ'.ρ=some z→Q (.ret v) σ'.s)→wpAny K.M K.A (exec pst B.env) Q E σ.s
def iP (sts:List Internal.S)(psts:List Stmt):Prop:=∀(B:cU K ns Γ) (σ:Pt) (β:Type) (k:Fm→Option β) (q:V→Fm→Option β) (z:β) (Q:Flow→Shared→Prop) (E:Value→Shared→Prop),dZ B.toBs σ→aU K.C Internal.glb sts β σ.ρ k q=some z→
 (∀σ',fK B.toBs [] σ σ'→k σ'.ρ=some z→Q .next σ'.s)→(∀σ' v x,fK B.toBs [] σ σ'→Vl B.toBs σ' v x→q x σ'.ρ=some z→Q (.ret v) σ'.s)→wpAny K.M K.A (execs psts B.env) Q E σ.s
end
theorem cV.os {K:Kx}{B:Bs K}{pu:Bool}{σ σ1:Pt}(h:cV B pu σ σ1):fK B [] σ σ1:=h.gos (fun _ m=>absurd m List.not_mem_nil)
section
variable {K:Ct}{ns:dL}{Γ:cZ}
theorem IE:iP K ns Γ [] []:=fun B σ β k q z Q E S hev hn hr=>wpAny_execs_nil (hn σ (.here S) hev)
theorem DV {st r p t}(h1:fN K ns Γ st p)(h2:iP K ns Γ r t):iP K ns Γ (st::r) (p::t):=fun B σ β k q z Q E S hev hn hr=>
 wpAny_execs_cons (h1 B σ β _ q z _ E S hev (fun σ1 g1 k1=>h2 B σ1 β k q z Q E g1.S k1 (fun σ2 g2=>hn σ2 (g1.trans g2)) fun σ2 v x g2=>hr σ2 v x (g1.trans g2)) hr)
theorem IF {p}:fN K ns Γ .bad p:=fun B σ β k q z Q E S hev=>nomatch hev
theorem IG {e v pos}(he:bC K ns Γ e v):fN K ns Γ (.ret e) (.Return (some v) pos):=fun B σ β k q z Q E S hev _ hr=>
 wpAny_Return_some (he B σ β q z _ E S hev fun σ1 v1 x1 g1 r1 k1=>hr σ1 v1 x1 g1.os r1 k1)
theorem IH {t a b t' a' b' pos}(ht:gW K ns Γ t t')(ha:iP K ns Γ a a')(hb:iP K ns Γ b b'):fN K ns Γ (.ite t a b) (.If t' a' b' pos):=fun B σ β k q z Q E S hev hn hr=>
 wpAny_If (ht B σ β _ z _ E (lO (f:=fun c ρ₁=>cond c (aU K.C Internal.glb a β ρ₁ k q) (aU K.C Internal.glb b β ρ₁ k q))) S hev fun σ1 c g1 k1=>by
  cases c with
  |true=>exact ha B σ1 β k q z Q E g1.S k1 (fun σ2 g2=>hn σ2 (g1.os.trans g2)) fun σ2 v x g2=>hr σ2 v x (g1.os.trans g2)
  |false=>exact hb B σ1 β k q z Q E g1.S k1 (fun σ2 g2=>hn σ2 (g1.os.trans g2)) fun σ2 v x g2=>hr σ2 v x (g1.os.trans g2))
theorem II {b b' h hs pos}(hb:iP K ns Γ b b'):fN K ns Γ (.tryS b) (.Try b' (h::hs) [] [] pos):=fun B σ β k q z Q E S hev hn hr=>
 wpAny_Try_except (hb B σ β k q z _ _ S hev (fun σ1 g1 k1=>wpAny_execs_nil (hn σ1 g1 k1)) hr)
noncomputable def WK:Expr→Bool
 |.ListComp ..=>false
 |.SetComp ..=>false
 |.DictComp ..=>false
 |_=>true
theorem dW {value:Expr}{t:Option Expr}{l:Nat}{env:Env}(h:WK value=true):swapsWith value t l env=pure false:=by
 cases value<;>first|rfl|cases h
theorem IJ {n e y yp v pos}(he:bC K ns Γ e v)(hΓ:Tg K Γ n y)(hs:∀l env,swapsWith v (some (.Name y yp)) l env=pure false):fN K ns Γ (.asg n e) (.Assign [.Name y yp] v pos):=fun B σ β k q z Q E S hev hn hr=>by
 rw [exec_Assign_Name _ _ _ _ _ (hs _ _)]
 exact wpAny_bind (wpAny_standAt (wpAny_bind (he B σ β _ z _ E S hev fun σ1 v1 x1 g1 r1 k1=>wpAny_bind (wpAny_standAt (wpAny_bind (eO hΓ g1.S r1 (fun _ m=>absurd m List.not_mem_nil) fun σ2 g2 e2=>wpAny_pure (hn σ2 (g1.os.trans g2) (e2▸k1))))))))
theorem DW {n nv y yp sr ifs elt vars pair target pelt iter pifs scope cpos pos}(hnv:nv=vars.length)(hs:fD K ns Γ pair sr iter)(hts:jH K scope.names (cN Γ scope vars) ifs pifs)(helt:bC K scope.names (cN Γ scope vars) elt pelt)(htv:mJ pair target vars)(F:bY ns Γ scope vars)(hΓ:Tg K Γ n y):
  fN K ns Γ (.asg n (.comp nv sr ifs elt)) (.Assign [.Name y yp] (.ListComp pelt [⟨target,iter,pifs,0⟩] scope cpos) pos):=fun B σ β k q z Q E S hev hn hr=>by
 subst hnv
 replace hev:kE K.C Internal.glb (.comp vars.length sr ifs elt) β σ.ρ (fun v ρ₁=>k (ρ₁.set n (.v v)))=some z:=hev
 obtain ⟨b,hb⟩:∃b,swapsWith (.ListComp pelt [⟨target,iter,pifs,0⟩] scope cpos) (some (.Name y yp)) pos.line B.env=pure b:=⟨_,rfl⟩
 cases b with
 |false=>
  rw [exec_Assign_Name _ _ _ _ _ hb]
  exact wpAny_bind (wpAny_standAt (wpAny_bind (vT rfl hs hts helt htv F B σ β _ z _ E S hev fun σ1 v1 x1 g1 r1 k1=>wpAny_bind (wpAny_standAt (wpAny_bind (eO hΓ g1.S r1 (fun _ m=>absurd m List.not_mem_nil) fun σ2 g2 e2=>wpAny_pure (hn σ2 (g1.os.trans g2) (e2▸k1))))))))
 |true=>
  rw [exec_Assign_Name_used _ _ _ _ hb]
  refine wpAny_bind (wpAny_standAt (wpAny_bind ?_))
  show wpAny _ _ (do let _←comprehension (.ListComp pelt [⟨target,iter,pifs,0⟩] scope cpos) scope B.env _ (newList []) false (eval iter B.env) (some (assign (.Name y yp) B.env))) _ _ σ.s
  refine wpAny_bind (wpAny_mono (vS (Q:=fun _ s'=>Q .next s') (use:=some (assign (.Name y yp) B.env)) hs hts helt htv F S hev fun σ1 zs C hd σe v g1 f k1=>?_) (fun _ s' hq=>wpAny_pure (wpAny_pure hq)) fun _ _ e=>e)
  show wpAny _ _ (do standAt yp;bindName B.env y v) _ _ _
  refine wpAny_bind (wpAny_standAt (eO (B:=B.hide (fun d=>d=C) hd) hΓ f.S f.v (fun _ m=>absurd m List.not_mem_nil) fun σ2 g2 e2=>?_))
  obtain ⟨mm,hm⟩:=f.n
  refine ⟨mm,hm.at' fun o e=>g2.hid f.S ⟨.inr rfl,(hd C rfl).1⟩ e,fun h4 hs4=>?_⟩
  have hk:∀b o,σ2.s.heap.get? b=some o→¬b=C→h4.get? b=some o:=fun b o e n=>(hs4.2 b n).trans e
  exact hn (σ2.to h4 σ2.s.toks) (g1.os.trans ⟨g2.S.unhide (hd:=hd) (fun d e=>e▸f.oC) hk,(f.w.trans g2.w).beside hk fun b o e=>e▸f.f o,(f.u.trans g2.u).trans (show Up σ2.s (σ2.to h4 σ2.s.toks).s from rfl),fun _ m=>absurd m List.not_mem_nil⟩) (e2▸k1)
theorem DX {B:cU K ns Γ}{σ:Pt}{i:Nat}{n:Str}{a:Addr}{sl:aE}{h1:Heap}{tk1:Tok}{Q:Unit→Shared→Prop}{E:Value→Shared→Prop}(hΓ:Tg K Γ i n)(S:dZ B.toBs σ)(hk:iG σ.s.heap h1)(ha:cG σ.s.heap a)(hr:dB K.w.params (gS B.toBs σ) h1 a sl)
  (hp:∀σ',fK B.toBs [] σ σ'→σ'.ρ=σ.ρ.set i sl→Q () σ'.s):wpAny K.M K.A (bindName B.env n (.ref a)) Q E (σ.to h1 tk1).s:=by
 obtain ⟨p,h1',h2',h3'⟩:∃p,B.pls[i]? =some p∧there σ.s.heap p∧True:=by
  refine aR (gO hΓ.1 B.ok.len) fun p h1=>?_
  exact ⟨p,h1,S.plLive (List.mem_of_getElem? h1),trivial⟩
 refine B.ok.bind hΓ.1 h1' (h2'.at fun o=>hk _ o) fun h' tk U=>?_
 refine aF (S.store_o hΓ.2 h1' hk ha U hr) fun S' w=>?_
 exact hp ⟨σ.own.set i (some a),σ.ρ.set i sl,{σ.s with heap:=h',toks:=tk}⟩ ⟨S',w,rfl,fun _ m=>absurd m List.not_mem_nil⟩ rfl
theorem lR {B:cU K ns Γ}{σ:Pt}{i:Nat}{n:Str}{a:Addr}{sl:aE}{h1:Heap}{tk1:Tok}{yp:Pos}{Q:Flow→Shared→Prop}{E:Value→Shared→Prop}(hΓ:Tg K Γ i n)(S:dZ B.toBs σ)(hk:iG σ.s.heap h1)(ha:cG σ.s.heap a)(hr:dB K.w.params (gS B.toBs σ) h1 a sl)
  (hp:∀σ',fK B.toBs [] σ σ'→σ'.ρ=σ.ρ.set i sl→Q .next σ'.s):wpAny K.M K.A (do standAt yp;bindName B.env n (.ref a);pure .next) Q E (σ.to h1 tk1).s:=
 wpAny_bind (wpAny_standAt (wpAny_bind (DX hΓ S hk ha hr fun σ' g e=>wpAny_pure (hp σ' g e))))
theorem DY {n y yp lp pos}(hΓ:Tg K Γ n y):fN K ns Γ (.newL n) (.Assign [.Name y yp] (.List [] lp) pos):=fun B σ β k q z Q E S hev hn hr=>by
 rw [exec_Assign_Name _ _ _ _ _ (dW rfl)]
 exact wpAny_bind (wpAny_standAt (wpAny_bind (wpAny_List (Calls.spliced_nil ⟨Nat.zero_le _,lR hΓ S bB aV (sl:=.l []) (bM [] 0 ⟨Heap.get?_push_size _ rfl,bJ.nil⟩) fun σ' g e=>hn σ' g (e▸hev)⟩))))
theorem DZ {n y yp lp pos}(hΓ:Tg K Γ n y):fN K ns Γ (.newD n) (.Assign [.Name y yp] (.Dict [] [] lp) pos):=fun B σ β k q z Q E S hev hn hr=>by
 rw [exec_Assign_Name _ _ _ _ _ (dW rfl)]
 exact wpAny_bind (wpAny_standAt (wpAny_bind (wpAny_Dict_empty (lR hΓ S bB aV (sl:=.d []) (bM [] 0 ⟨Heap.get?_push_size _ rfl,rfl,List.nodup_nil⟩) fun σ' g e=>hn σ' g (e▸hev)))))
theorem yK {n y yp es vs lp pos}(hΓ:Tg K Γ n y)(he:jY K ns Γ es vs)(hl:Nat.ble es.length jA=true):fN K ns Γ (.newLi n es) (.Assign [.Name y yp] (.List vs lp) pos):=fun B σ β k q z Q E S hev hn hr=>by
 rw [exec_Assign_Name _ _ _ _ _ (dW rfl)]
 exact wpAny_bind (wpAny_standAt (wpAny_bind (wpAny_List (he B σ β _ z _ E _ S hev fun σ1 vs1 xs g1 r1 e1 k1=>⟨by rw [bJ.length r1,e1];exact eX hl,lR hΓ g1.S bB aV (sl:=.l xs) (bM vs1 0 ⟨Heap.get?_push_size _ rfl,r1⟩) fun σ' g e=>hn σ' (g1.os.trans g) (e▸k1)⟩))))
theorem QB {e v pos}(he:bC K ns Γ e v)(hs:∀l env,swapsWith v none l env=pure false):fN K ns Γ (.ex e) (.Expr v pos):=fun B σ β k q z Q E S hev hn hr=>
 wpAny_Expr (he B σ β _ z _ E S hev fun σ1 v1 x1 g1 r1 k1=>by
  cases x1 with
  |none=>cases r1;exact hn σ1 g1.os k1
  |_=>exact no k1) B.ok.quiet (hs _ _)
end
mutual
theorem IK {P:Params}:∀{v:V} {h:Int},UB v=some h→qZ P v=h
 |.int i=>Option.some.inj
 |.tup l=>fun e=>aD (Option.map_eq_some_iff.mp e) fun hs e1 e2=>(congrArg (fun x=>reduceHash (Builtin.Tuple.tupleHashOf x)) (mK e1)).trans e2
 |.none=>no
 |.bool _=>no
 |.str _=>no
 |.lst _=>no
 |.dct _=>no
theorem mK {P:Params}:∀{l:List V} {hs:List Int},oS l=some hs→kG P l=hs
 |[]=>Option.some.inj
 |x::r=>fun e=>aD (aO e) fun h e1 e=>aD (Option.map_eq_some_iff.mp e) fun t e2 e=>by
  subst e;exact List.cons_eq_cons.mpr ⟨IK e1,mK e2⟩
end
theorem hM.hashes {P:Params}{g:Gh}{l:List (V×V)}:∀{es:List DictEntry},hM P g es l→es.map (·.hash)=kG P (l.map (·.1)):=by
 induction l with
 |nil=>intro es r;cases r;rfl
 |cons p l ih=>intro es r;obtain ⟨e,v,t,rfl,_,_,_,r⟩:=r;exact List.cons_eq_cons.mpr ⟨rfl,ih r⟩
theorem hM.tups {P:Params}{g:Gh}{h:Heap}(hg:∀a o,g a o→h.get? a=some o){l:List (V×V)}:∀{es:List DictEntry},hM P g es l→∀e∈es,xV h e:=by
 induction l with
 |nil=>intro es r;cases r;intro e h;cases h
 |cons p l ih=>
  intro es r e he
  obtain ⟨b,v,t,rfl,hk,rk,_,r⟩:=r
  rcases List.mem_cons.mp he with rfl|he
  ·obtain ⟨k,y⟩:=p
   obtain ⟨_,l,q⟩:=fU hk
   replace q:k=.tup l:=q
   subst q
   obtain ⟨a,vs,e,h,_⟩:=rk
   exact (bM a _ ⟨e,hg _ _ h⟩)
  ·exact ih r e he
theorem EA {P:Params}{g:Gh}{l:List (V×V)}{es:List DictEntry}(h:xK l=true)(r:hM P g es l):(es.map (·.hash)).Nodup:=by
 rw [hM.hashes r]
 unfold xK at h
 cases e:oS (l.map (·.1)) with
 |none=>rw [e] at h;cases h
 |some hs=>rw [e] at h;rw [mK e];exact of_decide_eq_true h
section
variable {K:Ct}{ns:dL}{Γ:cZ}
theorem IL {n y yp e v pos}(hΓ:Tg K Γ n y)(he:bC K ns Γ e v):fN K ns Γ (.aug n e) (.AugAssign (.Name y yp) .Add v pos):=fun B σ β k q z Q E S hev hn hr=>by
 refine aD (abF (s:=σ.ρ.at n) hev) fun x e0 hev=>?_
 refine aD (gY hev) fun a ahG hev=>?_;subst ahG
 refine bN (S.get (Fm.at_some e0 nofun)) fun p oa q1 q2 w=>?_
 cases oa with
 |some _=>exact w.2.elim
 |none=>
  refine aD w fun pv r ahH=>?_;obtain ⟨t,rfl⟩:=ahH
  refine wpAny_AugAssign_Name (B.ok.load hΓ.1 q1 r (he B σ β _ z _ E S hev fun σ1 v1 x1 g1 r1 k1=>?_))
  refine aD (gY k1) fun b ahI k1=>?_;subst ahI
  refine aR r1 fun t1 ahJ=>?_;subst ahJ
  refine PySem.AutoIntOps.iadd_0 (show wpAny K.M K.A (storeName B.env y (.int (a+b) σ1.s.toks)) (fun _=>Q .next) E {σ1.s with toks:=σ1.s.toks+1} from ?_)
  refine aR (gO hΓ.1 B.ok.len) fun p' h1=>?_
  refine B.ok.store (s:={σ1.s with toks:=σ1.s.toks+1}) hΓ.1 h1 (g1.S.plLive (List.mem_of_getElem? h1)) fun h2 tk2 U=>?_
  refine aF (g1.S.store_v (x:=.int (Int.add a b)) hΓ.2 h1 U ⟨_,rfl⟩) fun S2 w2=>?_
  exact hn ⟨σ1.own.set n none,σ1.ρ.set n (.v (.int (Int.add a b))),{σ1.s with heap:=h2,toks:=tk2}⟩ (g1.os.trans ⟨S2,w2,rfl,fun _ m=>absurd m List.not_mem_nil⟩) k1
theorem IM {n y yp e g gp v cpos pos}(hg:g=("dict" :Str)) (hgg:gK ns g=true) (hΓ:Tg K Γ n y) (he:bX K ns Γ e v):fN K ns Γ (.cpD n e) (.Assign [.Name y yp] (.Call (.Name g gp) [v] [] cpos) pos):=fun B σ β k q z Q E S hev hn hr=>by
 subst hg
 refine aF (dE hgg) fun hg1 hg2=>?_
 rw [exec_Assign_Name _ _ _ _ _ (dW rfl)]
 refine wpAny_bind (wpAny_standAt (wpAny_bind (Call_Name rfl (cH K.cx B.ok (B.glb _ hg1) (B.nsg S) (B.nsb S) (v:=.type "dict") (List.mem_of_getElem? (l:=cX) (i:=10) rfl) ?_ hg2))))
 rw [bH (he.plain (show kE K.C Internal.glb e β _ _=some z from hev)) [] B.env]
 refine PyProof.Rows.callWith_type rfl (Calls.evalArgs_plain (Calls.spliced_cons (he.ev B σ β _ z _ E S hev fun σ1 v1 x1 g1 r1 k1=>Calls.spliced_nil ?_)))
 cases x1 with
 |dct kvs=>
  refine aF (aA k1) fun hc k1=>?_
  refine aF (eY hc) fun hc hz=>?_
  refine oO r1 fun d es m ah5 hd hr nd=>?_;subst ah5
  exact CZ (s:=σ1.s) (yC hd) hd.1 (hM.tups (fun _ _ g=>g.1) hr) (EA hc hr) (by rw [hM.length hr];exact eX hz) fun h2 n2 hk2 ho2=>lR (tk1:=σ1.s.toks) hΓ g1.S hk2 aV (sl:=.d kvs) (bM es n2 ⟨ho2,hr,nd⟩) fun σ' g e=>hn σ' (g1.os.trans g) (e▸k1)
 |_=>exact no k1
theorem IN {n y yp e g gp k' kp v lpos cpos pos}(hg:g=("dict" :Str)) (hgg:gK ns g=true) (hk:k'=("list" :Str)) (hkg:gK ns k'=true) (hΓ:Tg K Γ n y) (he:bX K ns Γ e v):
  fN K ns Γ (.mtD n e) (.Assign [.Name y yp] (.Call (.Name g gp) [.Call (.Name k' kp) [v] [] lpos] [] cpos) pos):=fun B σ β k q z Q E S hev hn hr=>by
 subst hg hk
 refine aF (dE hgg) fun hg1 hg2=>?_
 refine aF (dE hkg) fun hk1 hk2=>?_
 rw [exec_Assign_Name _ _ _ _ _ (dW rfl)]
 refine wpAny_bind (wpAny_standAt (wpAny_bind (Call_Name rfl (cH K.cx B.ok (B.glb _ hg1) (B.nsg S) (B.nsb S) (v:=.type "dict") (List.mem_of_getElem? (l:=cX) (i:=10) rfl) ?_ hg2))))
 refine PyProof.Rows.callWith_type rfl (Calls.evalArgs_plain (Calls.spliced_cons ?_))
 refine Call_Name rfl (cH K.cx B.ok (B.glb _ hk1) (B.nsg S) (B.nsb S) (v:=.type "list") (List.mem_of_getElem? (l:=cX) (i:=3) rfl) ?_ hk2)
 rw [bH (he.plain (show kE K.C Internal.glb e β _ _=some z from hev)) [] B.env]
 refine PyProof.Rows.callWith_type rfl (Calls.evalArgs_plain (Calls.spliced_cons (he.ev B σ β _ z _ E S hev fun σ1 v1 x1 g1 r1 k1=>Calls.spliced_nil ?_)))
 cases x1 with
 |tup l=>cases l with
  |cons _ _=>exact no k1
  |nil=>
   refine UD (b:=.list) (k:=fun x=>some x) (z:=.lst []) (mI B.toBs σ1) K.hh r1 rfl fun h2 tk2 v2 x2 hk2 e2 r2=>Calls.spliced_nil ?_
   cases e2
   refine dA r2 fun a vs m ah6 hl hr=>?_;subst ah6
   cases hr
   exact vH (s:=(σ1.to h2 tk2).s) K.hh (g1.S.gn hk2 _ _ hl).1 fun h3 tk3 n3 hk3 ho3=>lR (σ:=σ1.to h2 tk2) hΓ (g1.S.grow hk2) hk3 aV (sl:=.d []) (bM [] n3 ⟨ho3,rfl,List.nodup_nil⟩) fun σ' g e=>hn σ' ((g1.trans (cV.new g1.S tk2 hk2)).os.trans g) (e▸k1)
 |_=>exact no k1
theorem nY {B:cU K ns Γ}{σ:Pt}(S:dZ B.toBs σ){n:Nat}{a:Addr}(ho:σ.own[n]? =some (some a)){h1:Heap}{tk1:Tok}(hs:Heap.SameBut a σ.s.heap h1){sl:aE}(hr:(∀b o,gS B.toBs σ b o→gv B.toBs σ.own h1 b o)→dB K.w.params (gv B.toBs σ.own h1) h1 a sl):
  fK B.toBs [] σ ⟨σ.own,σ.ρ.set n sl,{σ.s with heap:=h1,toks:=tk1}⟩:=by
 have hm:=List.mem_of_getElem? ho
 have hX:∀b o,gS B.toBs σ b o→gv B.toBs σ.own h1 b o:=fun b o g=>⟨(hs.2 b fun q=>g.2 (.inr (.inr (q▸hm)))).trans g.1,g.2⟩
 obtain ⟨S',g⟩:=S.upd ho (fun b ob g d=>(hs.2 b fun q=>d (.inr q)).trans g) (K.T.mono _ _ (qQ hX fun b o t g=>(hs.2 b fun q=>(S.ownX hm).1 (q▸t)).trans g) S.ti) (hr hX)
 exact ⟨S',g.toGw,rfl,fun _ m=>absurd m List.not_mem_nil⟩
section
variable {n:Nat}{y a:Str}{yp ap cpos pos:Pos}{e:Internal.E}{v:Expr}(hl:(ap.endLine==cpos.line)=true)(hΓ:Γ[n]? =some (some y))(he:bX K ns Γ e v)
include hl hΓ he
theorem IO (ha:a=("append" :Str)):fN K ns Γ (.app n e) (.Expr (.Call (.Attribute (.Name y yp) a ap) [v] [] cpos) pos):=fun B σ β k q z Q E S hev hn hr=>by
 subst ha
 refine aF (aA hev) fun hpu hev=>?_
 have hpl:=he.plain hev
 refine bA (aX e hev) fun _ _ hs=>?_
 refine aD (PD (s:=σ.ρ.at n) hs) fun xs e0 _=>?_
 rw [e0] at hev
 refine mY (pF S e0) fun p a0 vs0 m0 q1 q2 q3 q4 _=>?_
 have ht:backTo cpos (starEach [v] B.env)=[(false,eval v B.env)]:=by rw [bH hpl];rfl
 refine wpAny_Expr_any (wpAny_Call_method_late (trees:=[(false,eval v B.env)]) iB (by refine (Eq.symm ht)▸?_;rfl) hl ht (B.ok.evalName hΓ q1 q3 (bM ("list") ("list.append") ⟨PySem.F.plainAttrs_list,PySem.F.slot_list_append,PySem.F.type_list_append,⟨_,q4,rfl⟩,fun a q=>by cases q;exact ⟨_,q4,rfl⟩,?_⟩))) B.ok.quiet rfl
 refine Calls.callWith_builtin rfl (Calls.evalArgs_plain (Calls.spliced_cons (he.ev B σ β _ z _ E S hev fun σ1 v1 x1 g1 r1 k1=>Calls.spliced_nil ?_)))
 refine aF (aA k1) fun hz k1=>?_
 refine bN (tI g1 q1 q3 (by rw [g1.p hpu];exact e0)) fun vs m w2 w4 w5=>?_
 refine append_at (s:=σ1.s) w4 (fun h2 hs hd=>?_) (by refine (Eq.symm List.size_toArray)▸?_;refine (Eq.symm (bJ.length w5))▸?_;exact kL hz)
 exact hn _ (g1.os.trans (nY (tk1:=σ1.s.toks) (sl:=.l (List.append xs [x1])) g1.S w2 hs fun hX=>(bM (vs++[v1]) (m+1) ⟨by rw [hd,List.push_toArray],bJ.append (bJ.cons (r1.mono hX) bJ.nil) (bJ.mono w5 hX)⟩))) (by rw [g1.p hpu];exact k1)
theorem IP (ha:a=("extend" :Str)):fN K ns Γ (.ext n e) (.Expr (.Call (.Attribute (.Name y yp) a ap) [v] [] cpos) pos):=fun B σ β k q z Q E S hev hn hr=>by
 subst ha
 refine aF (aA hev) fun hpu hev=>?_
 have hpl:=he.plain hev
 refine bA (aX e hev) fun _ _ hs=>?_
 refine aD (PD (s:=σ.ρ.at n) hs) fun xs e0 _=>?_
 rw [e0] at hev
 refine mY (pF S e0) fun p a0 vs0 m0 q1 q2 q3 q4 _=>?_
 have ht:backTo cpos (starEach [v] B.env)=[(false,eval v B.env)]:=by rw [bH hpl];rfl
 refine wpAny_Expr_any (wpAny_Call_method_late (trees:=[(false,eval v B.env)]) iB (by refine (Eq.symm ht)▸?_;rfl) hl ht (B.ok.evalName hΓ q1 q3 (bM ("list") ("list.extend") ⟨PySem.F.plainAttrs_list,PySem.F.slot_list_extend,PySem.F.type_list_extend,⟨_,q4,rfl⟩,fun a q=>by cases q;exact ⟨_,q4,rfl⟩,?_⟩))) B.ok.quiet rfl
 refine Calls.callWith_builtin rfl (Calls.evalArgs_plain (Calls.spliced_cons (he.ev B σ β _ z _ E S hev fun σ1 v1 x1 g1 r1 k1=>Calls.spliced_nil ?_)))
 refine aD (xX k1) fun ys ah7 k1=>?_;subst ah7
 refine aF (aA k1) fun hz k1=>?_
 refine bN (tI g1 q1 q3 (by rw [g1.p hpu];exact e0)) fun vs m w2 w4 w5=>?_
 refine dA r1 fun b ws m2 ah8 hb hrb=>?_;subst ah8
 have hsz':vs.toArray.size+ws.toArray.size≤sizeLine:=by refine (Eq.symm List.size_toArray)▸?_;refine (Eq.symm List.size_toArray)▸?_;refine (Eq.symm (bJ.length w5))▸?_;refine (Eq.symm (bJ.length hrb))▸?_;exact kL hz
 refine call_meets PySem.F.slot_list_extend ⟨_,w4,rfl⟩ PySem.F.entry_list_extend (PySem.F.args_list_extend_2 _ _) (AutoSeq1.list_extend_list_list_0 a0 vs.toArray m b ws.toArray m2 (extend_door hsz') (Nat.le_trans (Nat.le_add_right _ _) hsz')) ⟨w4,hb.1,?_⟩
 have hd:(σ1.s.heap.update a0 (Obj.mapSeq fun x=>x++ws.toArray)).get? a0=some (bV (vs++ws) (if (vs.toArray++ws.toArray).size==vs.toArray.size then m else m+1)):=by
  rw [Heap.get?_update_self _ w4 (by rw [bV,mapSeq_app];rfl),bV,mapSeq_app,List.append_toArray]
 exact hn _ (g1.os.trans (nY (tk1:=σ1.s.toks) (sl:=.l (List.append xs ys)) g1.S w2 (Heap.SameBut.update ..) fun hX=>(bM (vs++ws) _ ⟨hd,bJ.append (bJ.mono hrb hX) (bJ.mono w5 hX)⟩))) (by refine (Eq.symm (g1.p hpu))▸?_;exact k1)
end
theorem EB {n y yp i e sl sp v pos}(hΓ:Γ[n]? =some (some y))(hi:bC K ns Γ i sl)(he:bC K ns Γ e v)(hsw:∀l env,swapsWith v (some (.Subscript (.Name y yp) sl sp)) l env=pure false):fN K ns Γ (.setI n i e) (.Assign [.Subscript (.Name y yp) sl sp] v pos):=fun B σ β k q z Q E S hev hn hr=>by
 refine wpAny_Assign_Subscript (he B σ β _ z _ E S hev fun σ1 v1 x1 g1 r1 k1=>?_) (hsw _ _)
 refine aF (aA k1) fun hpu k1=>?_
 refine bA (aX i k1) fun _ _ hs=>?_
 have own0:∃p a,B.pls[n]? =some p∧rd σ1.s.heap p (.ref a):=by
  cases e0:σ1.ρ.at n with
  |l xs=>refine uZ (pF g1.S e0) fun p a _ _ q1 _ q3 _=>?_;exact (bM p a ⟨q1,q3⟩)
  |d xs=>refine uZ (pG g1.S e0) fun p a _ _ q1 _ q3 _=>?_;exact (bM p a ⟨q1,q3⟩)
  |_=>rw [e0] at hs;exact no hs
 refine cF own0 fun p a q1 q3=>?_
 refine B.ok.evalName hΓ q1 q3 (hi B σ1 β _ z _ E g1.S k1 fun σ2 v2 x2 g2 r2 k2=>?_)
 have r1:=r1.mono g2.g
 have ep:=g2.p hpu
 cases e0:σ1.ρ.at n with
 |d kvs=>
  rw [e0] at k2
  refine aF (aA k2) fun hk k2=>?_
  refine aF (aA k2) fun hz k2=>?_
  refine aD (aO k2) fun w' hw k2=>?_
  refine iY (xZ g2 q1 q3 (by rw [ep];exact e0)) fun es m w2 w4 w5 w6 w7=>?_
  refine aR (nV hk r2) fun ka ah9=>?_;subst ah9
  exact tE (s:=σ2.s) (mI B.toBs σ2) (HG K) w4 w5 w6 r2 hk r1 (kL hz) hw fun h3 tk3 es' n' hs hd3 hr3 hn3=>hn _ ((g1.os.trans g2.os).trans (nY (tk1:=tk3) (sl:=.d w') g2.S w2 hs fun hX=>(bM es' n' ⟨hd3,hM.mono hr3 hX,hn3⟩))) (by rw [ep];exact k2)
 |l xs=>
  rw [e0] at k2
  cases x2 with
  |int i=>cases i with
   |negSucc _=>exact no k2
   |ofNat j=>
    refine aF (aA k2) fun h1 k2=>?_
    refine aF (aA k2) fun hz k2=>?_
    refine bN (tI g2 q1 q3 (by rw [ep];exact e0)) fun vs m w2 w4 w5=>?_
    refine aR r2 fun t aiA=>?_;subst aiA
    have hj:=Nat.blt_eq.mp h1
    have hz:=Nat.le_of_ble_eq_true hz
    refine ki_setAt w4 (Int.natCast_nonneg j) (by clear hn hr;show (j:Int)<_;omega) (by rw [List.size_toArray,bJ.length w5];exact Int.ofNat_lt.mpr hj) ?_
    have hd:∃n',(σ2.s.heap.update a (Obj.mapSeq (·.setIfInBounds (Int.ofNat j).toNat v1))).get? a=some (bV (vs.set j v1) n'):=by
     rw [Heap.get?_update_self _ w4 rfl]
     simp only [bV,Obj.mapSeq,List.setIfInBounds_toArray]
     exact ⟨_,rfl⟩
    refine aR hd fun n' hd=>?_
    exact hn _ ((g1.os.trans g2.os).trans (nY (tk1:=σ2.s.toks) (sl:=.l (xs.set j x1)) g2.S w2 (Heap.SameBut.update ..) fun hX=>(bM (vs.set j v1) n' ⟨hd,bJ.set (r1.mono hX) (bJ.mono w5 hX) _⟩))) (by rw [ep];exact k2)
  |_=>exact no k2
 |_=>rw [e0] at k2;exact no k2
end
def WL (P:Shared→Prop)(Q:Flow→Shared→Prop)(f:Flow)(s:Shared):Prop:=match f with
 |.next=>P s
 |.ret v=>Q (.ret v) s
 |_=>False
def akO (M:Model)(A:Around)(env:Env)(target:Expr)(body:List Stmt)(it:Value)(Q:Flow→Shared→Prop)(P:Shared→Prop)(E:Value→Shared→Prop)(r:Option Value)(s₁:Shared):Prop:=match r with
 |none=>Q .next s₁
 |some v=>wpAny M A (letOwnedTupleGo target it v) (fun _ s₂=>wpAny M A (assign target env v) (fun _ s₃=>wpAny M A (execs body env) (WL P Q) E s₃) E s₂) E s₁
theorem EC {prog:Program}{w:World}{A:Around}{s:Shared}{target iter:Expr}{body:List Stmt}{pos:Pos}{env:Env}{Q:Flow→Shared→Prop}{E:Value→Shared→Prop}(hs:∀x,foldedSetIterable iter env x=pure x)
  (h:wpAny (model prog w) A (eval iter env) (fun x s₁=>wpAny (model prog w) A (pyIter x) (fun it s₂=>∃(I:Nat→Shared→Prop) (n:Nat),I n s₂∧∀n s E,I n s→wpAny (model prog w) A (pyNext it) (akO (model prog w) A env target body it Q (fun s₅=>∃m,m<n∧I m s₅) E) E s) E s₁) E s):
  wpAny (model prog w) A (exec (.For target iter body [] pos) env) Q E s:=by
 refine wpAny_For (wpAny_mono h (fun x s₁ h₁=>wpAny_mono h₁ (fun it s₂ h₂=>?_) fun _ _ e=>e) fun _ _ e=>e) hs
 refine cF h₂ fun I n h0 turn=>?_
 refine codeAny_forLoop_any I (fun n s hI=>wpAny_mono (turn n s _ hI) (fun r s₁ h₁=>?_) fun _ _ e=>e) n h0
 cases r with
 |none=>exact wpAny_execs_nil h₁
 |some v=>exact wpAny_mono h₁ (fun _ s₂ h₂=>wpAny_mono h₂ (fun _ s₃ h₃=>wpAny_mono h₃ (fun f s₄ h₄=>by cases f<;>first|exact h₄|exact h₄.elim) fun _ _ e=>e) fun _ _ e=>e) fun _ _ e=>e
theorem ED {prog:Program}{w:World}{A:Around}{s:Shared}{test:Expr}{body:List Stmt}{pos:Pos}{env:Env}{Q:Flow→Shared→Prop}{E:Value→Shared→Prop}(I:Nat→Shared→Prop)
  (turn:∀n s E,I n s→wpAny (model prog w) A (isTrue test env (eval test env)) (fun b s₂=>cond b (wpAny (model prog w) A (execs body env) (WL (fun s₅=>∃m,m<n∧I m s₅) Q) E s₂) (Q .next s₂)) E s) (n:Nat) (h:I n s):wpAny (model prog w) A (exec (.While test body [] pos) env) Q E s:=by
 refine wpAny_While (codeAny_whileLoop I (fun n s hI=>wpAny_mono (turn n s _ hI) (fun b s₁ h₁=>?_) fun _ _ e=>e) n h)
 cases b with
 |true=>exact wpAny_mono h₁ (fun f s₄ h₄=>by cases f<;>first|exact h₄|exact h₄.elim) fun _ _ e=>e
 |false=>exact wpAny_execs_nil h₁
section
variable {β:Type}{C:CF}{b:List Internal.S}{L:Nat}{k:Fm→Option β}{q:V→Fm→Option β}{z:β}
noncomputable def QC (C:CF)(t:Internal.E)(b:List Internal.S)(L:Nat)(k:Fm→Option β)(q:V→Fm→Option β)(n:Nat)(σ:Fm):Option β:=
 sU (fun σ again stop=>fE L σ fun τ=>kE C Internal.glb t β τ fun v τ₁=>dG v fun c=>cond c (aU C Internal.glb b β τ₁ again q) (stop τ₁)) (fun σ=>fE L σ k) n σ
noncomputable def abP (C:CF)(t:Internal.E)(b:List Internal.S)(L:Nat)(k:Fm→Option β)(q:V→Fm→Option β)(n:Nat)(c:Bool)(τ:Fm):Option β:=cond c (aU C Internal.glb b β τ (QC C t b L k q n) q) (fE L τ k)
theorem WM {t:Internal.E}{n:Nat}{σ:Fm}(h:QC C t b L k q (n+1) σ=some z):kE C Internal.glb t β σ (fun v τ=>dG v fun c=>abP C t b L k q n c τ)=some z:=(hZ h).2
noncomputable def WN (C:CF)(xs:List Nat)(b:List Internal.S)(L:Nat)(k:Fm→Option β)(q:V→Fm→Option β)(l:List V)(σ:Fm):Option β:=
 VW (fun x σ again=>fE L σ fun τ=>bE xs x τ fun τ₁=>aU C Internal.glb b β τ₁ again q) (fun σ=>fE L σ k) l σ
theorem WO {xs:List Nat}{x:V}{l:List V}{σ:Fm}(h:WN C xs b L k q (x::l) σ=some z):bE xs x σ (fun τ=>aU C Internal.glb b β τ (WN C xs b L k q l) q)=some z:=(hZ h).2
end
section
variable {K:Ct}{ns:dL}{Γ:cZ}
theorem IQ {t b t' b' pos}(ht:gW K ns Γ t t')(hb:iP K ns Γ b b'):fN K ns Γ (.whl t b) (.While t' b' [] pos):=fun B σ β k q z Q E S hev hn hr=>by
 refine ED (fun n s=>∃σ',s=Pt.s σ'∧fK B.toBs [] σ σ'∧QC K.C t b σ.ρ.length k q n σ'.ρ=some z) (fun n s E hI=>?_) 100 ⟨σ,rfl,.here S,hev⟩
 obtain ⟨σ1,rfl,G,h⟩:=hI
 cases n with
 |zero=>exact no h
 |succ n=>
  refine ht B σ1 β _ z _ E (lO (f:=abP K.C t b σ.ρ.length k q n)) G.S (WM h) fun σ2 c g2 k2=>?_
  cases c with
  |true=>exact hb B σ2 β (QC K.C t b σ.ρ.length k q n) q z _ E g2.S k2 (fun σ3 g3 k3=>⟨n,Nat.lt_succ_self _,σ3,rfl,(G.trans g2.os).trans g3,k3⟩) fun σ3 v x g3=>hr σ3 v x ((G.trans g2.os).trans g3)
  |false=>exact hn σ2 (G.trans g2.os) (hZ k2).2
theorem IR {xs pair sr b target iter b' pos}(ht:jG K Γ pair xs target)(hs:fD K ns Γ pair sr iter)(hb:iP K ns Γ b b'):fN K ns Γ (.for xs sr b) (.For target iter b' [] pos):=fun B σ β k q z Q E S hev hn hr=>by
 refine EC (rJ (hs.plain (show gJ K.C Internal.glb sr β σ.ρ _=some z from hev)) B.env) (hs.ev B σ β _ z _ E S hev fun σ1 h2 tk2 I ds Z vals g1 hk hds hsrc z0 k1=>?_)
 have hd:=g1.S.hd hds
 have off:∀d,d∈ds→¬B.out d:=fun d e x=>(g1.S.fresh (hds d e)).1 (.inl x)
 have S2:=g1.S.hide hk hds hd (hsrc.live _ _ _ z0)
 have L:gP (B.hide (· ∈ds) hd) pair I ds vals Z (· ∈ds) σ1 []:=⟨hsrc,fun d m=>⟨.inr m,(hd d m).1⟩,fun b o m e=>(hds b m).none e,fun _ m=>m,fun _ m=>absurd m List.not_mem_nil⟩
 have out:∀{σ':Pt} {h3:Heap} {tk3:Tok},fK (B.hide (· ∈ds) hd).toBs [] σ1 σ'→(∀b o,σ'.s.heap.get? b=some o→b∉ds→h3.get? b=some o)→fK B.toBs [] σ (σ'.to h3 tk3):=fun {σ' h3 tk3} G hk3=>
  g1.os.trans ⟨G.S.unhide (hd:=hd) off hk3,G.w.beside hk3 fun b o m e=>(hds b m).none e,G.u.trans (show Up σ'.s (σ'.to h3 tk3).s from rfl),fun _ m=>absurd m List.not_mem_nil⟩
 refine ⟨fun n s=>∃i σ',s=Pt.s σ'∧i≤vals.length∧n=vals.length - i∧fK (B.hide (· ∈ds) hd).toBs [] σ1 σ'∧Z i σ'.s.heap (gS (B.hide (· ∈ds) hd).toBs σ')∧WN K.C xs b σ.ρ.length k q (vals.drop i) σ'.ρ=some z,vals.length,
  (bM 0 (σ1.to h2 tk2) ⟨rfl,Nat.zero_le _,rfl,⟨S2,.ext hk,rfl,fun _ m=>absurd m List.not_mem_nil⟩,hsrc.mono _ _ _ _ _ z0 (fun _ _ _ e=>e) (sW hk hds hd),k1⟩),fun n s E hI=>?_⟩
 refine FY hI fun i σ' ahK hi ahL G zi hf=>?_;subst ahK;subst ahL
 rcases Nat.lt_or_ge i vals.length with hlt|hge
 ·rw [List.drop_eq_getElem_cons hlt] at hf
  refine wpAny_mono (L.next (Q:=fun v s₂=>wpAny K.M K.A (assign target B.env v) (fun _ s₃=>wpAny K.M K.A (execs b' B.env) (WL _ Q) E s₃) E s₂) G zi (List.getElem?_eq_getElem hlt) ht.p fun v h4 tk4 G2 hv hz hk4 hg=>?_) (fun r s₁ h₁=>h₁.elim fun v q=>q.1▸q.2) fun _ _ e=>e
  refine nD (B:=B.hide (· ∈ds) hd) (qs:=[]) ht G2.S hv (fun _ _ _ m=>absurd m List.not_mem_nil) (WO hf) fun σ3 g3 k3=>?_
  exact hb (B.hide (· ∈ds) hd) σ3 β _ q z _ E g3.S k3 (fun σ4 g4 k4=>⟨vals.length - (i+1),Nat.sub_succ_lt_self _ _ hlt,i+1,σ4,rfl,hlt,rfl,G2.trans (g3.trans g4),hz σ4 (g3.trans g4),k4⟩)
   fun σ4 v x g4 r4 k4=>hr (σ4.to σ4.s.heap σ4.s.toks) v x (out (G2.trans (g3.trans g4)) fun _ _ e _=>e) (r4.mono (oW (hd:=hd) fun _ _ e _=>e)) k4
 ·have e:i=vals.length:=Nat.le_antisymm hi hge
  subst e
  rw [List.drop_length] at hf
  exact L.stop G.S zi fun h4 tk4 hk4=>hn _ (out G hk4) (hZ hf).2
end
section
variable {K:Ct}{ns:dL}{Γ:cZ}
theorem IS {β:Type}{z:β}:∀{n:Nat} {l:List V} {f:List V→Option β},fF n l f=some z→l.length=n∧f l=some z:=fun {n}=>by
 induction n with
 |zero=>intro l f h;cases l with
  |nil=>exact ⟨rfl,h⟩
  |cons _ _=>exact no h
 |succ n ih=>intro l f h;cases l with
  |nil=>exact no h
  |cons x r=>refine aF (ih (f:=fun t=>f (x::t)) h) fun e q=>?_;exact ⟨congrArg (· +1) e,q⟩
theorem IT {xs e ts k tp v pos}(ht:AP K Γ xs ts)(he:bC K ns Γ e v)(h1:∀l env,swapsWithSole [.Tuple ts k tp] v l env=pure false)(h2:∀env,swappedStores [.Tuple ts k tp] v env=pure none):fN K ns Γ (.unp xs e) (.Assign [.Tuple ts k tp] v pos):=fun B σ β k q z Q E S hev hn hr=>
 Assign_Tuple (he B σ β _ z _ E S hev fun σ1 v1 x1 g1 r1 k1=>by
  cases x1 with
  |tup l=>
   refine aF (IS k1) fun e1 k1=>?_
   exact pJ ht g1.S r1 e1.symm (fun _ _ _ m=>absurd m List.not_mem_nil) fun σ2 g2 e2=>hn σ2 (g1.os.trans g2) (e2▸k1)
  |_=>exact no k1) (h1 _ _) (h2 _)
theorem Gw.fresh {K:Kx}{pls:List Pl}{own own1:sV}{h h1:Heap}(w:Gw K pls own h own1 h1){d:Addr}(f:cG h1 d):some d∈own∨K.T.tb d∨cQ pls d∨∀o,h.get? d≠some o:=
 Classical.byCases .inl fun m=>Classical.byCases (fun t=>.inr (.inl t)) fun t=>Classical.byCases (fun p=>.inr (.inr (.inl p))) fun p=>.inr (.inr (.inr fun o e=>f.none (w.k d o e t p m)))
structure Wt (B:cU K ns Γ)(σ0:Pt)(D:Addr→Prop)(hd:∀d,D d→K.N≤d∧¬cQ B.pls d)(σ:Pt):Prop where
 S:dZ (B.toBs.hide D hd) σ
 w:Gw K.kx B.pls σ0.own σ0.s.heap σ.own σ.s.heap
 u:Up σ0.s σ.s
 f:∀d,D d→some d∈σ0.own∨K.T.tb d∨cQ B.pls d∨∀o,σ0.s.heap.get? d≠some o
 o:∀d,D d→¬B.out d
def Rv1 (P:Params)(g:Gh)(h:Heap)(D:Addr→Prop)(v:Value)(sl:aE):Prop:=(∃x,sl=.v x∧Rp P g v x)∨∃d,v=.ref d∧D d∧dB P g h d sl
theorem AU {P:Params}{g:Gh}{h:Heap}{d:Addr}{sl:aE}(k:dB P g h d sl):aP sl=true:=by cases sl<;>first|rfl|exact k.elim
theorem Rv1.move {P:Params}{g g':Gh}{h h':Heap}{D D':Addr→Prop}{v:Value}{sl:aE}(r:Rv1 P g h D v sl)(hg:∀a o,g a o→g' a o)(hk:∀d,aP sl=true→v=.ref d→D d→D' d∧∀o,h.get? d=some o→h'.get? d=some o):Rv1 P g' h' D' v sl:=
 r.imp (fun ⟨x,e,r⟩=>⟨x,e,r.mono hg⟩) fun ⟨d,e,m,r⟩=>let q:=hk d (AU r) e m;⟨d,e,q.1,r.move hg q.2⟩
abbrev tL (B:cU K ns Γ) (D:Addr→Prop) (hd:∀d,D d→K.N≤d∧¬cQ B.pls d) (σ:Pt) (v:Value) (sl:aE):Prop:=Rv1 K.w.params (gS (B.toBs.hide D hd) σ) σ.s.heap D v sl
variable {B:cU K ns Γ}{σ0 σ:Pt}{D:Addr→Prop}{hd:∀d,D d→K.N≤d∧¬cQ B.pls d}{E:Value→Shared→Prop}
theorem IU {i:Nat}{n:Str}{v:Value}{sl:aE}{Q:Unit→Shared→Prop}(hΓ:Tg K Γ i n)(W:Wt B σ0 D hd σ)(r:tL B D hd σ v sl)
  (hp:∀D' hd' σ',Wt B σ0 D' hd' σ'→σ'.ρ=σ.ρ.set i sl→(∀v' sl',tL B D hd σ v' sl'→(aP sl=true→aP sl'=true→v≠v')→tL B D' hd' σ' v' sl')→Q () σ'.s):wpAny K.M K.A (bindName B.env n v) Q E σ.s:=by
 rcases r with ⟨x,rfl,r⟩|⟨d,rfl,hD,ho⟩
 ·refine eO (B:=B.hide D hd) (qs:=[]) hΓ W.S r (fun _ m=>absurd m List.not_mem_nil) fun σ' g e=>hp D hd σ' ⟨g.S,W.w.trans g.w,W.u.trans g.u,W.f,W.o⟩ e fun v' sl' r' _=>r'.move g.g fun d _ _ m=>⟨m,fun o e=>g.hid W.S ⟨.inr m,(hd d m).1⟩ e⟩
 ·refine aR (gO hΓ.1 B.ok.len) fun p h1=>?_
  have hpm:p∈(B.toBs.hide D hd).pls:=List.mem_of_getElem? h1
  refine B.ok.bind hΓ.1 h1 (W.S.plLive hpm) fun h2 tk2 U=>?_
  refine aF (W.S.adopt hΓ.2 h1 hD (W.o d hD) U ho (hd':=fun a m=>hd a m.1)) fun S' g'=>?_
  refine hp (fun a=>D a∧a≠d) (fun a m=>hd a m.1) ⟨σ.own.set i (some d),σ.ρ.set i sl,{σ.s with heap:=h2,toks:=tk2}⟩ ⟨S',⟨fun a o g t p m=>U.same a o (W.w.k a o g t p m) fun e=>p ⟨_,hpm,e.symm⟩,fun a m=>?_⟩,W.u.trans rfl,fun b m=>W.f b m.1,fun b m=>W.o b m.1⟩ rfl
   fun v' sl' r' ne=>r'.move g' fun b ow e m=>⟨⟨m,fun q=>ne (AU ho) ow (by refine (Eq.symm e)▸?_;exact (Eq.symm q)▸rfl)⟩,fun o e=>U.same b o e fun q=>(hd b m).2 ⟨p,hpm,q.symm⟩⟩
  exact (List.mem_or_eq_of_mem_set m).elim (W.w.n a) fun e=>Option.some.inj e▸W.f d hD
abbrev It:=Nat×Str×Value×aE
abbrev itR (a b:It):Prop:=aP a.2.2.2=true→aP b.2.2.2=true→a.2.2.1≠b.2.2.1
noncomputable def IV (l:List It)(ρ:Fm):Fm:=l.foldl (fun ρ it=>ρ.set it.1 it.2.2.2) ρ
inductive Fs (env:Env):List (Value→Sem Unit)→List It→Prop
 |nil:Fs env [] []
 |cons {f it fs its}:(∀v M A (Q:Unit→Shared→Prop) E s,wpAny M A (bindName env it.2.1 v) Q E s→wpAny M A (f v) Q E s)→Fs env fs its→Fs env (f::fs) (it::its)
theorem yL {fs its}(hF:Fs B.env fs its):∀{D hd σ} {Q:Unit→Shared→Prop},Wt B σ0 D hd σ→(∀it∈its,Tg K Γ it.1 it.2.1∧tL B D hd σ it.2.2.1 it.2.2.2)→its.Pairwise itR→(∀σ',fK B.toBs [] σ0 σ'→σ'.ρ=IV its σ.ρ→Q () σ'.s)→
  wpAny K.M K.A (assignInOrder fs (its.map (·.2.2.1))) Q E σ.s:=by
 induction hF with
 |nil=>
  intro D hd σ Q W _ _ hp
  exact wpAny_pure (hp (σ.to σ.s.heap σ.s.toks) ⟨W.S.unhide W.o fun _ _ e _=>e,W.w,W.u,fun _ m=>absurd m List.not_mem_nil⟩ rfl)
 | @cons f it fs its h1 _ ih=>
  intro D hd σ Q W hi hpw hp
  refine aF (hi it (.head _)) fun q1 q2=>?_
  rw [List.pairwise_cons] at hpw
  refine PyProof.Rows.assignInOrder_cons (h1 _ _ _ _ _ _ (IU q1 W q2 fun D' hd' σ' W' e hm=>?_))
  exact ih W' (fun it' m=>⟨(hi it' (.tail _ m)).1,hm _ _ (hi it' (.tail _ m)).2 (hpw.1 it' m)⟩) hpw.2 fun σ2 g2 e2=>hp σ2 g2 (by refine (Eq.symm e2)▸?_;refine (Eq.symm e)▸?_;rfl)
structure AV (B:cU K ns Γ)(D0 D:Addr→Prop)(hd:∀d,D d→K.N≤d∧¬cQ B.pls d)(σ:Pt)(l:List (Value×aE)):Prop where
 ok:∀p∈l,tL B D hd σ p.1 p.2
 pw:l.Pairwise fun a b=>aP a.2=true→aP b.2=true→a.1≠b.1
 new:∀p∈l,aP p.2=true→∀d,p.1=.ref d→¬D0 d
def kA (K:Ct)(ns:dL)(Γ:cZ)(es:List Rv)(pes:List Expr):Prop:=∀(B:cU K ns Γ) (σ0:Pt) D hd σ (β:Type) (k:List aE→Fm→Option β) (z:β) (Q:List Value→Shared→Prop) E pos,Wt B σ0 D hd σ→rB K.C Internal.glb es β σ.ρ k=some z→
 (∀D' hd' σ' (l:List (Value×aE)),Wt B σ0 D' hd' σ'→(∀v sl,tL B D hd σ v sl→tL B D' hd' σ' v sl)→AV B D D' hd' σ' l→l.length=es.length→k (l.map (·.2)) σ'.ρ=some z→Q (l.map (·.1)) σ'.s)→wpAny K.M K.A (spliced (backTo pos (starEach pes B.env))) Q E σ.s
theorem EE:kA K ns Γ [] []:=fun B σ0 D hd σ β k z Q E pos W hev hp=>Calls.spliced_nil (hp D hd σ [] W (fun _ _ r=>r) ⟨fun _ m=>absurd m List.not_mem_nil,.nil,fun _ m=>absurd m List.not_mem_nil⟩ rfl hev)
theorem QD {e r p t}(he:bX K ns Γ e p)(hr:kA K ns Γ r t):kA K ns Γ (.e e::r) (p::t):=fun B σ0 D hd σ β k z Q E pos W hev hp=>
 args_cons (he.ev (B.hide D hd) σ β _ z _ E W.S hev fun σ1 v1 x1 g1 r1 k1=>hr B σ0 D hd σ1 β _ z _ E pos ⟨g1.S,W.w.trans g1.w.toGw,W.u.trans g1.u,W.f,W.o⟩ k1 fun D2 hd2 σ2 l W2 m2 ok e2 k2=>
  hp D2 hd2 σ2 ((v1,.v x1)::l) W2 (fun v sl rv=>m2 v sl (rv.move g1.g fun d _ _ m=>⟨m,fun o e=>g1.w.toGw.hid W.S ⟨.inr m,(hd d m).1⟩ e⟩))
   ⟨fun q m=>(List.mem_cons.mp m).elim (fun e=>e▸m2 _ _ (.inl ⟨x1,rfl,r1⟩)) (ok.ok q),List.pairwise_cons.mpr ⟨fun _ _ h=>(nomatch h),ok.pw⟩,fun q m=>(List.mem_cons.mp m).elim (fun e=>e▸fun h=>(nomatch h)) (ok.new q)⟩ (congrArg (· +1) e2) k2)
  (bH (he.plain (show kE K.C Internal.glb e β σ.ρ _=some z from hev)) _ _)
theorem IW {r:List Rv}{t:List Expr}(hr:kA K ns Γ r t){o:Obj}{sl:aE}{p:Expr}(hp1:PX p)(hof:∀{h:Heap},(h.push o).get? h.objs.size=some o)(hob:∀{P g h d},h.get? d=some o→dB P g h d sl)(hev1:∀{env:Env} {E:Value→Shared→Prop} {s:Shared} {Q:Value→Shared→Prop},Q (.ref s.heap.objs.size) {s with heap:=s.heap.push o}→wpAny K.M K.A (eval p env) Q E s)
  {B:cU K ns Γ} {σ0:Pt} {D hd σ} {β:Type} {k:List aE→Fm→Option β} {z:β} {Q:List Value→Shared→Prop} {E pos} (W:Wt B σ0 D hd σ) (hev:rB K.C Internal.glb r β σ.ρ (fun l ρ₁=>k (sl::l) ρ₁)=some z)
  (hp:∀D' hd' σ' (l:List (Value×aE)),Wt B σ0 D' hd' σ'→(∀v sl,tL B D hd σ v sl→tL B D' hd' σ' v sl)→AV B D D' hd' σ' l→l.length=r.length+1→k (l.map (·.2)) σ'.ρ=some z→Q (l.map (·.1)) σ'.s):wpAny K.M K.A (spliced (backTo pos (starEach (p::t) B.env))) Q E σ.s:=by
 refine args_cons (hev1 ?_) (bH hp1 _ _)
 let d:=σ.s.heap.objs.size
 have hl:(σ.s.heap.push o).get? d=some o:=hof
 have f:∀a,a=d→cG σ.s.heap a:=fun a e=>e▸aV
 have h1:=W.S.hd f
 have S1:=W.S.hide bB f h1 fun a e=>⟨_,(show a=d from e)▸hl⟩
 have hdn:¬D d:=fun m=>(W.S.fresh aV).1 (.inl (.inr m))
 have hd1:∀a,D a∨a=d→K.N≤a∧¬cQ B.pls a:=fun a m=>m.elim (hd a) (h1 a)
 have W1:Wt B σ0 (fun a=>D a∨a=d) hd1 (σ.to (σ.s.heap.push o) σ.s.toks):=⟨S1.less (D:=fun _=>False) (B':=B.toBs.hide (fun a=>D a∨a=d) hd1) rfl (fun a x=>x.elim (fun x=>.inl (.inl x)) fun x=>x.elim (fun x=>.inl (.inr x)) .inr) (fun _=>False.elim) (fun _ _ e _=>e) (fun _=>False.elim),
  W.w.trans (.ext bB),W.u.trans rfl,fun a m=>m.elim (W.f a) fun e=>e▸W.w.fresh aV,fun a m=>m.elim (W.o a) fun e x=>(W.S.fresh (f a e)).1 (.inl (.inl x))⟩
 refine hr B σ0 _ hd1 _ β _ z _ E pos W1 hev fun D2 hd2 σ2 l W2 m2 ok e2 k2=>?_
 refine hp D2 hd2 σ2 ((.ref d,sl)::l) W2 (fun v sl rv=>m2 v sl (rv.move (fun a o g=>?_) fun a _ _ m=>⟨.inl m,fun o=>bB a o⟩)) ⟨fun q m=>(List.mem_cons.mp m).elim (fun e=>e▸m2 _ _ (.inr ⟨d,rfl,.inr rfl,hob hl⟩)) (ok.ok q),List.pairwise_cons.mpr ⟨fun q m _ h e=>ok.new q m h d e.symm (.inr rfl),ok.pw⟩,
  fun q m=>(List.mem_cons.mp m).elim (fun e=>e▸fun _ a h=>by cases h;exact hdn) fun m h a e x=>ok.new q m h a e (.inl x)⟩ (congrArg (· +1) e2) k2
 exact ⟨bB a o g.1,fun x=>g.2 (x.elim (fun x=>.inl (x.elim .inl fun x=>x.elim .inr fun e=>absurd g.1 (fun g=>(f a e).none g))) .inr)⟩
theorem yM {r lp t}(hr:kA K ns Γ r t):kA K ns Γ (.newL::r) (.List [] lp::t):=fun B σ0 D hd σ β k z Q E pos W hev hp=>
 IW (o:=bV [] 0) (sl:=.l []) hr AJ (Heap.get?_push_size _ rfl) (fun e=>(bM [] 0 ⟨e,rfl⟩)) (fun h=>wpAny_List (Calls.spliced_nil ⟨Nat.zero_le _,h⟩)) W hev hp
theorem yN {r lp t}(hr:kA K ns Γ r t):kA K ns Γ (.newD::r) (.Dict [] [] lp::t):=fun B σ0 D hd σ β k z Q E pos W hev hp=>
 IW (o:=cD [] 0) (sl:=.d []) hr ⟨fun _ _=>rfl,fun _ _=>rfl,fun _ _=>rfl⟩ (Heap.get?_push_size _ rfl) (fun e=>(bM [] 0 ⟨e,rfl,List.nodup_nil⟩)) (fun h=>wpAny_Dict_empty h) W hev hp
end
section
variable {K:Ct}{ns:dL}{Γ:cZ}
noncomputable def tgN:List Expr→List Str
 |.Name n _::t=>n::tgN t
 |_=>[]
theorem tM {env:Env}{l:Nat}{xs:List Nat}{ts:List Expr}(h:AP K Γ xs ts):(ts.filterMap fun
  |.Name id pos=>if env.kindOf id==some .local && pos.line==l then some id else none
  |_=>none).length≤ts.length∧((ts.filterMap fun
  |.Name id pos=>if env.kindOf id==some .local && pos.line==l then some id else none
  |_=>none).length=ts.length→(ts.filterMap fun
  |.Name id pos=>if env.kindOf id==some .local && pos.line==l then some id else none
  |_=>none)=tgN ts):=by
 induction h with
 |nil=>exact ⟨Nat.le_refl _,fun _=>rfl⟩
 | @cons i n p xs ts _ _ ih=>
  refine (Eq.symm List.filterMap_cons)▸?_
  dsimp only
  by_cases e:(env.kindOf n==some .local && p.line==l)=true
  ·refine (Eq.symm (if_pos e))▸?_;exact ⟨Nat.succ_le_succ ih.1,fun q=>List.cons_eq_cons.mpr ⟨rfl,ih.2 (Nat.succ.inj q)⟩⟩
  ·refine (Eq.symm (if_neg e))▸?_;exact ⟨Nat.le_succ_of_le ih.1,fun q=>absurd ih.1 (q▸Nat.not_succ_le_self _)⟩
theorem qV {xs:List Nat}{ts vs:List Expr}{k k':Nat}{p p':Pos}{env:Env}(ht:AP K Γ xs ts)(hc:(vs.all (foldedForSure 8)|| !(vs.all (constantsAlone 8)))=true):
  swappedStores [.Tuple ts k p] (.Tuple vs k' p') env=pure none∨swappedStores [.Tuple ts k p] (.Tuple vs k' p') env=pure (some (tgN ts)):=by
 unfold swappedStores
 dsimp only
 split
 ·exact .inl rfl
 ·split
  ·exact .inl rfl
  ·split
   ·exact .inl rfl
   ·split
    ·exact .inl rfl
    ·rename_i h1 h2 h3 h4
     rw [Bool.or_eq_true,Bool.not_eq_true'] at hc
     have hc:=hc.resolve_left h4
     split
     ·rename_i h5
      rw [hc] at h5;cases h5
     ·rw [Bool.or_eq_true] at h3
      have h3:=fun q=>h3 (.inl q)
      have e:=Classical.byContradiction fun q=>h3 (bne_iff_ne.mpr q)
      exact .inr (congrArg (fun z=>(pure (some z):Sem (Option (List Str)))) ((tM ht).2 e))
structure IX (K:Ct)(Γ:cZ)(env:Env)(xs:List Nat)(ts:List Expr)(l:List (Value×aE))(its:List It):Prop where
 v:its.map (·.2.2.1)=l.map (·.1)
 s:∀ρ,IV its ρ=aW xs (l.map (·.2)) ρ
 n:its.map (·.2.1)=tgN ts
 ix:its.map (·.1)=xs
 m:∀it∈its,Tg K Γ it.1 it.2.1∧(it.2.2.1,it.2.2.2)∈l
 pw:∀{R:(Value×aE)→(Value×aE)→Prop},l.Pairwise R→its.Pairwise fun a b=>R (a.2.2.1,a.2.2.2) (b.2.2.1,b.2.2.2)
 f:Fs env ((assignEach ts env).map (·.2)) its
theorem WP {env:Env}{xs:List Nat}{ts:List Expr}(h:AP K Γ xs ts):∀{l:List (Value×aE)},l.length=xs.length→∃its,IX K Γ env xs ts l its:=by
 induction h with
 |nil=>intro l e;cases l with
  |nil=>exact ⟨[],rfl,fun _=>rfl,rfl,rfl,fun _ m=>absurd m List.not_mem_nil,fun _=>.nil,.nil⟩
  |cons _ _=>cases e
 | @cons i n p xs ts hg _ ih=>intro l e;cases l with
  |nil=>cases e
  |cons a l=>
   obtain ⟨its,o⟩:=ih (Nat.succ.inj e)
   refine ⟨(i,n,a.1,a.2)::its,List.cons_eq_cons.mpr ⟨rfl,o.v⟩,fun ρ=>o.s (ρ.set i a.2),List.cons_eq_cons.mpr ⟨rfl,o.n⟩,List.cons_eq_cons.mpr ⟨rfl,o.ix⟩,fun it m=>?_,fun r=>?_,.cons (fun v M A Q E s hq=>?_) o.f⟩
   ·rcases List.mem_cons.mp m with rfl|m
    ·exact ⟨hg,.head _⟩
    ·exact ⟨(o.m it m).1,.tail _ (o.m it m).2⟩
   ·rw [List.pairwise_cons] at r ⊢
    exact ⟨fun it m=>r.1 _ (o.m it m).2,o.pw r.2⟩
   ·show wpAny M A (do standAt p;bindName env n v) Q E s
    exact wpAny_bind (wpAny_standAt hq)
theorem IY {l:List It}{ρ:Fm}(h:(l.map (·.1)).Nodup):IV l.reverse ρ=IV l ρ:=by
 unfold IV
 refine List.Perm.foldl_eq' (List.reverse_perm l) (fun x hx y hy z=>?_) ρ
 rw [List.mem_reverse] at hx hy
 by_cases e:x.1=y.1
 ·refine aR (ix hx) fun i hi=>?_
  refine aR (ix hy) fun j hj=>?_
  have hi':(l.map (·.1))[i]? =some x.1:=by refine (Eq.symm List.getElem?_map)▸?_;refine (Eq.symm hi)▸?_;rfl
  have hj':(l.map (·.1))[j]? =some x.1:=by refine (Eq.symm List.getElem?_map)▸?_;refine (Eq.symm hj)▸?_;refine (Eq.symm e)▸?_;rfl
  have q:i=j:=(List.getElem?_inj (List.getElem?_eq_some_iff.mp hi').1 h).mp (hi'.trans hj'.symm)
  subst q
  cases hi.symm.trans hj;rfl
 ·exact List.set_comm _ _ e
theorem IZ {env:Env}:∀l:List It,Fs env (l.map fun it=>bindName env it.2.1) l:=fun l=>by
 induction l with
 |nil=>exact .nil
 |cons _ _ ih=>exact .cons (fun _ _ _ _ _ _ h=>h) ih
theorem EF {xs es ts k' tp vs k'' vp pos}(ht:AP K Γ xs ts)(he:kA K ns Γ es vs)(hnd:xs.Nodup)(hsz:Nat.ble es.length jA=true)(hc:(vs.all (foldedForSure 8)|| !(vs.all (constantsAlone 8)))=true):
  fN K ns Γ (.unpE xs es) (.Assign [.Tuple ts k' tp] (.Tuple vs k'' vp) pos):=fun B σ β k q z Q E S hev hn hr=>by
 have W0:Wt B σ (fun _=>False) (fun _=>False.elim) σ:=⟨S.hide (fun _ _ e=>e) (fun _=>False.elim) (fun _=>False.elim) fun _=>False.elim,.refl,rfl,fun _=>False.elim,fun _=>False.elim⟩
 have main:∀(Q':Value→Shared→Prop),(∀T D hd σ1 (l:List (Value×aE)) its,Wt B σ D hd σ1→AV B (fun _=>False) D hd σ1 l→IX K Γ B.env xs ts l its→σ1.s.heap.IsTuple T (l.map (·.1)).toArray→k (aW xs (l.map (·.2)) σ1.ρ)=some z→Q' (.ref T) σ1.s)→wpAny K.M K.A (eval (.Tuple vs k'' vp) B.env) Q' E σ.s:=fun Q' hq=>by
  refine wpAny_Tuple (he B σ _ _ σ β _ z _ E _ W0 hev fun D hd σ1 l W1 _ ok e1 k1=>⟨by rw [List.length_map,e1];exact eX hsz,?_⟩)
  refine aF (aA k1) fun e2 k1=>?_
  have e2:=Nat.eq_of_beq_eq_true e2
  rw [List.length_map] at e2
  refine aR (WP (env:=B.env) ht e2.symm) fun its o=>?_
  have hk:iG σ1.s.heap (σ1.s.heap.push (vA (l.map (·.1)))):=bB
  exact hq _ D hd (σ1.to _ σ1.s.toks) l its ⟨W1.S.grow hk,W1.w.trans (.ext hk),W1.u.trans rfl,W1.f,W1.o⟩ ⟨fun p m=>(ok.ok p m).move (fun a o g=>⟨hk a o g.1,g.2⟩) fun d _ _ m=>⟨m,fun o=>hk d o⟩,ok.pw,ok.new⟩ o ⟨_,Heap.get?_push_size _ rfl,rfl,0,rfl⟩ k1
 have fin:∀{D hd σ1 h2 its fs its' l} {Q':Unit→Shared→Prop},Wt B σ D hd σ1→AV B (fun _=>False) D hd σ1 l→IX K Γ B.env xs ts l its→iG σ1.s.heap h2→Fs B.env fs its'→(its'=its∨its'=its.reverse)→(∀σ',fK B.toBs [] σ σ'→σ'.ρ=aW xs (l.map (·.2)) σ1.ρ→Q' () σ'.s)→
   wpAny K.M K.A (assignInOrder fs (its'.map (·.2.2.1))) Q' E (σ1.to h2 σ1.s.toks).s:=fun {D hd σ1 h2 its fs its' l Q'} W1 ok o hk hf hi hq=>by
  have hpw:its.Pairwise itR:=o.pw ok.pw
  refine yL (σ0:=σ) (D:=D) (hd:=hd) (σ:=σ1.to h2 σ1.s.toks) hf ⟨W1.S.grow hk,W1.w.trans (.ext hk),W1.u.trans rfl,W1.f,W1.o⟩ (fun it m=>?_) ?_ fun σ' g e=>hq σ' g ?_
  ·have m:it∈its:=hi.elim (fun e=>e▸m) fun e=>List.mem_reverse.mp (e▸m)
   exact ⟨(o.m it m).1,(ok.ok _ (o.m it m).2).move (fun a o g=>⟨hk a o g.1,g.2⟩) fun d _ _ m=>⟨m,fun o=>hk d o⟩⟩
  ·rcases hi with rfl|rfl
   ·exact hpw
   ·rw [List.pairwise_reverse];exact hpw.imp fun h o1 o2 e=>h o2 o1 e.symm
  ·rw [e, ←o.s]
   rcases hi with rfl|rfl
   ·rfl
   ·exact IY (o.ix▸hnd)
 refine eT (ht.ok (env:=B.env)) fun _ t1 t2=>?_
 rcases qV (k:=k') (k':=k'') (p:=tp) (p':=vp) (env:=B.env) ht hc with hw|hw
 ·refine Assign_Tuple (main _ fun T D hd σ1 l its W1 ok o hT k1=>?_) rfl hw
  have e1:l.length=xs.length:=by rw [←o.ix, ←List.length_map (f:=(·.1)) (as:=l), ←o.v,List.length_map,List.length_map]
  refine wpAny_assign_Tuple K.hh hT (by rw [t1, ←e1,List.size_toArray,List.length_map]) t2 fun h2 he=>?_
  rw [←o.v]
  exact fin (Q':=fun _ s'=>Q .next s') W1 ok o (fun b o e=>he b o (Nat.ne_of_lt (Heap.lt_size e)) e) o.f (.inl rfl) fun σ' g e=>hn σ' g (e▸k1)
 ·refine Assign_Tuple_swapped (main _ fun T D hd σ1 l its W1 ok o hT k1=>?_) rfl hw
  rw [show (tgN ts).length=(l.map (·.1)).toArray.size from by rw [←o.n,List.size_toArray, ←o.v,List.length_map,List.length_map]]
  refine wpAny_unpackItems_tuple K.hh hT fun h2 he=>?_
  rw [←o.v, ←o.n, ←List.map_reverse, ←List.map_reverse,List.map_map]
  exact fin (Q':=fun _ s'=>Q .next s') W1 ok o (fun b o e=>he b o (Nat.ne_of_lt (Heap.lt_size e)) e) (IZ its.reverse) (.inr rfl) fun σ' g e=>hn σ' g (e▸k1)
end
section
noncomputable def p0:Pos:=⟨0,0,0,0⟩
noncomputable def dx:Expr:=.Name "" p0
noncomputable def l1 (l:List Expr):Expr:=l.headD dx
noncomputable def l2 (l:List Expr):Expr:=l.tail.headD dx
structure Vw where
 a:List Expr
 l:List Expr
 p:Pos
 k:Nat
 s:Str
 g:List Comprehension
 sc:Option Scope
noncomputable def vw (pe:Expr):Vw:=match pe with
 |.BoolOp _ l p=>⟨[],l,p,0, "",[],none⟩
 |.BinOp a _ b p=>⟨[a,b],[],p,0, "",[],none⟩
 |.UnaryOp _ a p=>⟨[a],[],p,0, "",[],none⟩
 |.IfExp a b c p=>⟨[a,b,c],[],p,0, "",[],none⟩
 |.Dict ks l p=>⟨[(ks.headD none).getD dx],l,p,0, "",[],none⟩
 |.ListComp a g s p=>⟨[a],[],p,0, "",g,some s⟩
 |.Compare a _ l p=>⟨[a],l,p,0, "",[],none⟩
 |.Call a l _ p=>⟨[a],l,p,0, "",[],none⟩
 |.Constant c k p=>⟨[],[],p,k,(match c with
  |.str x=>x
  |_=> ""),[],none⟩
 |.Lambda _ b s p=>⟨[b],[],p,0, "",[],some s⟩
 |.Attribute a _ p=>⟨[a],[],p,0, "",[],none⟩
 |.Subscript a b p=>⟨[a,b],[],p,0, "",[],none⟩
 |.Name x p=>⟨[],[],p,0,x,[],none⟩
 |.List l p=>⟨[],l,p,0, "",[],none⟩
 |.Tuple l k p=>⟨[],l,p,k, "",[],none⟩
 |.Slice a b _ p=>⟨[a.getD (b.getD dx)],[],p,0, "",[],none⟩
 |_=>⟨[],[],p0,0, "",[],none⟩
noncomputable def x1 (pe:Expr):Expr:=l1 (vw pe).a
noncomputable def x2 (pe:Expr):Expr:=l2 (vw pe).a
noncomputable def x3 (pe:Expr):Expr:=l2 (vw pe).a.tail
noncomputable def xl (pe:Expr):List Expr:=(vw pe).l
noncomputable def xp (pe:Expr):Pos:=(vw pe).p
noncomputable def xk (pe:Expr):Nat:=(vw pe).k
noncomputable def xs (pe:Expr):Str:=(vw pe).s
end
section
variable {K:Ct}{ns:dL}{Γ:cZ}
theorem EG {e:Expr}(he:∀env whole,PySem.isTrue e env whole=(do let v←whole;standAt e.pos;holding [v] (truthy v))):PlT e:=fun h=>isTrue_plain h (he _ _)
theorem QE {c p}:bX K ns Γ .none (.Constant .none c p):=.pl GK (EG fun _ _=>rfl) jF (.inr fun _ _ _=>rfl) (.inr fun _ _ _ _ _=>⟨rfl,rfl⟩)
theorem QF {b c p}:bX K ns Γ (.bool b) (.Constant (.bool b) c p):=.pl GL (EG fun _ _=>rfl) jF (.inr fun _ _ _=>rfl) (.inr fun _ _ _ _ _=>⟨rfl,rfl⟩)
theorem WQ {i c p}:bX K ns Γ (.int i) (.Constant (.int i) c p):=.pl OP (EG fun _ _=>rfl) jF (.inr fun _ _ _=>rfl) (.inr fun _ _ _ _ _=>⟨rfl,rfl⟩)
theorem WR {n c p}(hn:n<27):bX K ns Γ (.str n) (.Constant (.str (nm n)) c p):=.pl (OQ hn) (EG fun _ _=>rfl) jF (.inr fun _ _ _=>rfl) (.inr fun _ _ _ _ _=>⟨rfl,rfl⟩)
theorem tN {e x p}(h:bC K ns Γ e (.Name x p)):bX K ns Γ e (.Name x p):=.pl h (EG fun _ _=>rfl) ⟨fun _ _=>rfl,fun _ _=>rfl,fun _ _=>rfl⟩ (.inr fun _ _ _=>rfl) (.inr fun _ _ _ _ _=>⟨rfl,rfl⟩)
theorem WS {e l o r p}(h:bC K ns Γ e (.BinOp l o r p)):bX K ns Γ e (.BinOp l o r p):=.pl h (EG fun _ _=>rfl) ⟨fun _ _=>rfl,fun _ _=>rfl,fun _ _=>rfl⟩ (.inr fun _ _ _=>rfl) (.inr fun _ _ _ _ _=>⟨rfl,rfl⟩)
theorem WT {e a p}(h:bC K ns Γ e (.UnaryOp .USub a p)):bX K ns Γ e (.UnaryOp .USub a p):=.pl h (EG fun _ _=>rfl) ⟨fun _ _=>rfl,fun _ _=>rfl,fun _ _=>rfl⟩ (.inr fun _ _ _=>rfl) (.inr fun _ _ _ _ _=>⟨rfl,rfl⟩)
theorem abR {e o a p}(h:bC K ns Γ e (.UnaryOp o a p))(t:gW K ns Γ e (.UnaryOp o a p)):bX K ns Γ e (.UnaryOp o a p):=⟨h,t,.inr ⟨fun _ _=>rfl,fun _ _=>rfl,fun _ _=>rfl⟩,.inr fun _ _ _=>rfl,.inr fun _ _ _ _ _=>⟨rfl,rfl⟩⟩
theorem yO {e l o r p}(h:bC K ns Γ e (.Compare l o r p))(t:gW K ns Γ e (.Compare l o r p)):bX K ns Γ e (.Compare l o r p):=⟨h,t,.inr ⟨fun _ _=>rfl,fun _ _=>rfl,fun _ _=>rfl⟩,.inr fun _ _ _=>rfl,.inr fun _ _ _ _ _=>⟨rfl,rfl⟩⟩
theorem UF {e o l p}(h:bC K ns Γ e (.BoolOp o l p))(t:gW K ns Γ e (.BoolOp o l p)):bX K ns Γ e (.BoolOp o l p):=⟨h,t,.inr ⟨fun _ _=>rfl,fun _ _=>rfl,fun _ _=>rfl⟩,.inr fun _ _ _=>rfl,.inr fun _ _ _ _ _=>⟨rfl,rfl⟩⟩
theorem WU {e a b c p}(h:bC K ns Γ e (.IfExp a b c p))(t:gW K ns Γ e (.IfExp a b c p)):bX K ns Γ e (.IfExp a b c p):=⟨h,t,.inr ⟨fun _ _=>rfl,fun _ _=>rfl,fun _ _=>rfl⟩,.inr fun _ _ _=>rfl,.inr fun _ _ _ _ _=>⟨rfl,rfl⟩⟩
theorem WV {es l k p}(h:bC K ns Γ (.tup es) (.Tuple l k p)):bX K ns Γ (.tup es) (.Tuple l k p):=.pl h (EG fun _ _=>rfl) ⟨fun _ _=>rfl,fun _ _=>rfl,fun _ _=>rfl⟩ (.inr fun _ _ _=>rfl) (.inl rfl)
theorem WW {e l p}(h:bC K ns Γ e (.List l p)):bX K ns Γ e (.List l p):=.pl h (EG fun _ _=>rfl) AJ (.inr fun _ _ _=>rfl) (.inr fun _ _ _ _ _=>⟨rfl,rfl⟩)
theorem JA {e k v p}(h:bC K ns Γ e (.Dict k v p)):bX K ns Γ e (.Dict k v p):=.pl h (EG fun _ _=>rfl) ⟨fun _ _=>rfl,fun _ _=>rfl,fun _ _=>rfl⟩ (.inr fun _ _ _=>rfl) (.inr fun _ _ _ _ _=>⟨rfl,rfl⟩)
theorem mL {e a i p}(h:bC K ns Γ e (.Subscript a i p)):bX K ns Γ e (.Subscript a i p):=.pl h (EG fun _ _=>rfl) ⟨fun _ _=>rfl,fun _ _=>rfl,fun _ _=>rfl⟩ (.inr fun _ _ _=>rfl) (.inr fun _ _ _ _ _=>⟨rfl,rfl⟩)
theorem jS {e f a k p}(h:bC K ns Γ e (.Call f a k p)):bX K ns Γ e (.Call f a k p):=.pl h (EG fun _ _=>rfl) jR (.inr fun _ _ _=>rfl) (.inr fun _ _ _ _ _=>⟨rfl,rfl⟩)
theorem QG {nv s ifs elt a g sc p}(h:bC K ns Γ (.comp nv s ifs elt) (.ListComp a g sc p)):bX K ns Γ (.comp nv s ifs elt) (.ListComp a g sc p):=.pl h (EG fun _ _=>rfl) ⟨fun _ _=>rfl,fun _ _=>rfl,fun _ _=>rfl⟩ (.inl rfl) (.inl rfl)
structure mM (K:Ct)(ns:dL)(Γ:cZ)(es:List E)(pes:List Expr):Prop where
 all:jY K ns Γ es pes
 len:pes.length=es.length
 l:qU K ns Γ es pes
 ts:jH K ns Γ es pes
 hd:∀e r,es=e::r→∃p t,pes=p::t∧bX K ns Γ e p
theorem mM.nil:mM K ns Γ [] []:=⟨xY,rfl,.nil,.nil,nofun⟩
theorem mM.cons {e r p t}(he:bX K ns Γ e p)(hr:mM K ns Γ r t):mM K ns Γ (e::r) (p::t):=
 ⟨vK he hr.all,congrArg (· +1) hr.len,.cons he hr.len hr.l,.cons he.t hr.ts,fun e' r' q=>by cases q;exact (bM p t ⟨rfl,he⟩)⟩
theorem UG {α:Type}{l:List α}(h:(!l.isEmpty)=true):l≠[]:=fun e=>by subst e;cases h
theorem EH (HC:cA K){f fn es pes gp pos}(hf:nS[f]? =some fn)(hio:(!fn.io)=true)(hg:gK ns fn.name=true)(hn:(!es.isEmpty)=true)(h:mM K ns Γ es pes):bC K ns Γ (.call f es) (.Call (.Name fn.name gp) pes [] pos):=by
 cases es with
 |nil=>cases hn
 |cons e r=>
  refine cF (h.hd e r rfl) fun p t ahE he=>?_;subst ahE
  exact HQ HC hf ((Bool.not_eq_true' _).mp hio) hg he h.all
noncomputable def nb (e:E):Bool:=Nat.ble 1 (WD e)
theorem bX.px' {e pe}(h:bX K ns Γ e pe)(n:nb e=true):PX pe:=h.px.resolve_left fun q=>by subst q;exact nomatch (show false=true from n)
end
noncomputable def gM {α:Type}(b:Bool)(f:b=true→Option α):Option α:=Bool.rec (motive:=fun c=>b=c→Option α) (fun _=>none) (fun h=>f h) b rfl
noncomputable def JB {α β:Type}(o:Option α)(f:(x:α)→o=some x→Option β):Option β:=Option.rec (motive:=fun c=>o=c→Option β) (fun _=>none) (fun x h=>f x h) o rfl
noncomputable def FU {β:Type}(Γ:cZ)(i:Nat)(f:(x:Str)→Γ[i]? =some (some x)→Option β):Option β:=JB Γ[i]? fun o h=>JB o fun x h2=>f x (h2▸h)
theorem abS {b:Bool}(h:(!b)=true):b=false:=(Bool.not_eq_true' b).mp h
structure WX (K:Ct)(ns:dL)(Γ:cZ)(nv:Nat)(sr:Sr)(ifs:List E)(elt:E) where
 pair:Bool
 target:Expr
 iter:Expr
 pifs:List Expr
 pelt:Expr
 scope:Scope
 vars:List Str
 hnv:nv=vars.length
 hs:fD K ns Γ pair sr iter
 hts:jH K scope.names (cN Γ scope vars) ifs pifs
 helt:bC K scope.names (cN Γ scope vars) elt pelt
 htv:mJ pair target vars
 F:bY ns Γ scope vars
noncomputable def tO (ns:dL)(Γ:cZ)(scope:Scope)(vars:List Str):Bool:=
 scope.kind==.function && (scope.names.all fun p=>p.2 !=.cell && (p.2 !=.local||scope.names.lookup p.1==some .local) && (p.2 !=.free||(ns.lookup p.1==some .cell && Γ.contains (some p.1)))) &&
 (vars.all fun x=>scope.names.lookup x==some .local && !(x==("__debug__" :Str)) && !(x==("__classdict__" :Str))) && decide vars.Nodup
theorem rR {ns:dL}{Γ:cZ}{scope:Scope}{vars:List Str}(h:tO ns Γ scope vars=true):bY ns Γ scope vars:=by
 unfold tO at h
 simp only [Bool.and_eq_true,List.all_eq_true,decide_eq_true_eq,Bool.or_eq_true,bne_iff_ne,ne_eq,Bool.not_eq_true'] at h
 refine aF h fun ahF h4=>?_;obtain ⟨⟨h1,h2⟩,h3⟩:=ahF
 refine ⟨eq_of_beq h1,fun p hp=>(h2 p hp).1.1,fun p hp e=>(h2 p hp).1.2.elim (fun q=>absurd e q) eq_of_beq,fun x hx=>?_,fun x hx=>⟨eq_of_beq (h3 x hx).1.1,(h3 x hx).1.2,(h3 x hx).2⟩,h4⟩
 rcases (h2 _ hx).2 with q|q
 ·exact absurd rfl q
 ·exact ⟨eq_of_beq q.1,by simpa using q.2⟩
section
variable {K:Ct}
noncomputable def prT (nv:Nat)(t:Expr):Option {q:Bool×Expr×List Str // mJ q.1 q.2.1 q.2.2∧nv=q.2.2.length}:=match nv with
 |1=>some ⟨(false,.Name (xs t) (xp t),[xs t]),.one,rfl⟩
 |2=>some ⟨(true,.Tuple [.Name (xs (l1 (xl t))) (xp (l1 (xl t))),.Name (xs (l2 (xl t))) (xp (l2 (xl t)))] (xk t) (xp t),[xs (l1 (xl t)),xs (l2 (xl t))]),.two,rfl⟩
 |_=>none
noncomputable def mkC {ns:dL}{Γ:cZ}{nv:Nat}{sr:Sr}{ifs:List E}{elt:E}(pe:Expr)(rs:(pair:Bool)→Expr→Option {pe // fD K ns Γ pair sr pe})(rf:(ns':dL)→(Γ':cZ)→List Expr→Option {pes // mM K ns' Γ' ifs pes})(re:(ns':dL)→(Γ':cZ)→Expr→Option {pe // bX K ns' Γ' elt pe}):Option (WX K ns Γ nv sr ifs elt):=
 match (vw pe).sc with
 |none=>none
 |some scope=>match (vw pe).g with
  |[]=>none
  |g::_=>(prT nv g.target).bind fun t=>gM (tO ns Γ scope t.1.2.2) fun h=>(rs t.1.1 g.iter).bind fun s=>(rf scope.names (cN Γ scope t.1.2.2) g.ifs).bind fun f=>(re scope.names (cN Γ scope t.1.2.2) (x1 pe)).bind fun e=>
   some ⟨t.1.1,t.1.2.1,s.1,f.1,e.1,scope,t.1.2.2,t.2.2,s.2,f.2.ts,e.2.ev,t.2.1,rR h⟩
noncomputable def JC:(l:List Nat)→List Expr→Option {ts // qT l ts}
 |[],_=>some ⟨[],.nil⟩
 |n::l,ts=>gM (Nat.blt n 27) fun h=>(JC l ts.tail).bind fun r=>some ⟨.Constant (.str (nm n)) (xk (l1 ts)) (xp (l1 ts))::r.1,.cons (Nat.blt_eq.mp h) r.2⟩
variable (HC:cA K)(io:Bool)(hio:io=false→K.io=none)
theorem JD {io:Bool}{i:Nat}(hio:io=false→K.io=none)(h:(!(io && Nat.beq i 0))=true):K.io=none∨i≠0:=by
 cases io with
 |false=>exact .inl (hio rfl)
 |true=>exact .inr fun e=>by subst e;cases h
set_option smartUnfolding false in
mutual
noncomputable def eU (ns:dL)(Γ:cZ):(e:E)→Expr→Option {pe // bX K ns Γ e pe}
 |.bad,pe=>some ⟨pe,.bad⟩
 |.none,pe=>some ⟨.Constant .none (xk pe) (xp pe),QE⟩
 |.bool b,pe=>some ⟨.Constant (.bool b) (xk pe) (xp pe),QF⟩
 |.int i,pe=>some ⟨.Constant (.int i) (xk pe) (xp pe),WQ⟩
 |.str n,pe=>gM (Nat.blt n 27) fun h=>some ⟨.Constant (.str (nm n)) (xk pe) (xp pe),WR (Nat.blt_eq.mp h)⟩
 |.var i,pe=>FU Γ i fun x h=>some ⟨.Name x (xp pe),tN (nT h)⟩
 |.frz i,pe=>FU Γ i fun x h=>gM (!(io && Nat.beq i 0)) fun h2=>some ⟨.Name x (xp pe),tN (OR h (JD hio h2))⟩
 |.glob g,pe=>JB jB[g]? fun x h=>gM (gK ns x) fun h2=>some ⟨.Name x (xp pe),tN (GM h h2)⟩
 |.bin o a b,pe=>(eU ns Γ a (x1 pe)).bind fun p=>(eU ns Γ b (x2 pe)).bind fun q=>some ⟨.BinOp p.1 (VY o) q.1 (xp pe),WS (PH p.2.ev q.2.ev)⟩
 |.neg a,pe=>(eU ns Γ a (x1 pe)).bind fun p=>some ⟨.UnaryOp .USub p.1 (xp pe),WT (PF p.2.ev)⟩
 |.not a,pe=>(eU ns Γ a (x1 pe)).bind fun p=>some ⟨.UnaryOp .Not p.1 (xp pe),abR (PG p.2.ev) (HH p.2.t)⟩
 |.cmp o a b,pe=>(eU ns Γ a (x1 pe)).bind fun p=>(eU ns Γ b (l1 (xl pe))).bind fun q=>some ⟨.Compare p.1 [qR o] [q.1] (xp pe),yO (PI p.2.ev q.2.ev) (HI p.2.ev q.2.ev)⟩
 |.isN a,pe=>(eU ns Γ a (x1 pe)).bind fun p=>some ⟨.Compare p.1 [.Is] [.Constant .none (xk (l1 (xl pe))) (xp (l1 (xl pe)))] (xp pe),yO (PJ p.2.ev) (HJ p.2.ev)⟩
 |.inS b a l,pe=>(eU ns Γ a (x1 pe)).bind fun p=>(JC l (xl (l1 (xl pe)))).bind fun t=>gM (Nat.ble l.length jA) fun h=>some ⟨.Compare p.1 [GQ b] [.Tuple t.1 (xk (l1 (xl pe))) (xp (l1 (xl pe)))] (xp pe),yO (PL p.2.ev t.2 h) (HK p.2.ev t.2 h)⟩
 |.and es,pe=>(pL ns Γ es (xl pe)).bind fun p=>gM (!es.isEmpty) fun h=>some ⟨.BoolOp .And p.1 (xp pe),UF (PN (UG h) p.2.l) (HM p.2.l)⟩
 |.or es,pe=>(pL ns Γ es (xl pe)).bind fun p=>gM (!es.isEmpty) fun h=>some ⟨.BoolOp .Or p.1 (xp pe),UF (WE (UG h) p.2.l) (PO p.2.l)⟩
 |.ite t a b,pe=>(eU ns Γ t (x1 pe)).bind fun p=>(eU ns Γ a (x2 pe)).bind fun q=>(eU ns Γ b (x3 pe)).bind fun r=>some ⟨.IfExp p.1 q.1 r.1 (xp pe),WU (PM p.2.t q.2.ev r.2.ev) (HL p.2.t q.2.t r.2.t)⟩
 |.tup es,pe=>(pL ns Γ es (xl pe)).bind fun p=>gM (Nat.ble es.length jA) fun h=>some ⟨.Tuple p.1 (xk pe) (xp pe),WV (PP p.2.all h)⟩
 |.lst es,pe=>(pL ns Γ es (xl pe)).bind fun p=>gM (Nat.ble es.length jA) fun h=>some ⟨.List p.1 (xp pe),WW (PQ p.2.all h)⟩
 |.dct0,pe=>some ⟨.Dict [] [] (xp pe),JA HN⟩
 |.dct1 a b,pe=>(eU ns Γ a (x1 pe)).bind fun p=>(eU ns Γ b (l1 (xl pe))).bind fun q=>some ⟨.Dict [some p.1] [q.1] (xp pe),JA (HU p.2 q.2.ev)⟩
 |.subN a n,pe=>(eU ns Γ a (x1 pe)).bind fun p=>some ⟨.Subscript p.1 (.Constant (.int n) (xk (x2 pe)) (xp (x2 pe))) (xp pe),mL (HO p.2.ev)⟩
 |.sub a b,pe=>(eU ns Γ a (x1 pe)).bind fun p=>(eU ns Γ b (x2 pe)).bind fun q=>some ⟨.Subscript p.1 q.1 (xp pe),mL (PR p.2.ev q.2)⟩
 |.subO n b,pe=>FU Γ n fun y h=>(eU ns Γ b (x2 pe)).bind fun q=>some ⟨.Subscript (.Name y (xp (x1 pe))) q.1 (xp pe),mL (HP h q.2)⟩
 |.slcLo a b,pe=>(eU ns Γ a (x1 pe)).bind fun p=>(eU ns Γ b (x1 (x2 pe))).bind fun q=>some ⟨.Subscript p.1 (.Slice (some q.1) none none (xp (x2 pe))) (xp pe),mL (DF p.2.ev q.2.ev)⟩
 |.slcHi a b,pe=>(eU ns Γ a (x1 pe)).bind fun p=>(eU ns Γ b (x1 (x2 pe))).bind fun q=>some ⟨.Subscript p.1 (.Slice none (some q.1) none (xp (x2 pe))) (xp pe),mL (DG p.2.ev q.2.ev)⟩
 |.call f es,pe=>JB nS[f]? fun fn hf=>gM (!fn.io) fun h1=>gM (gK ns fn.name) fun h2=>gM (!es.isEmpty) fun h3=>(pL ns Γ es (xl pe)).bind fun p=>some ⟨.Call (.Name fn.name (xp (x1 pe))) p.1 [] (xp pe),jS (EH HC hf h1 h2 h3 p.2)⟩
 |.callO f n es,pe=>JB nS[f]? fun fn hf=>gM fn.io fun h1=>gM (gK ns fn.name) fun h2=>FU Γ n fun y h=>(pL ns Γ es (xl pe).tail).bind fun p=>some ⟨.Call (.Name fn.name (xp (x1 pe))) (.Name y (xp (l1 (xl pe)))::p.1) [] (xp pe),jS (DH HC hf h1 h2 h p.2.all)⟩
 |.bi1 b a,pe=>gM (gK ns (b1N b)) fun h=>(eU ns Γ a (l1 (xl pe))).bind fun p=>some ⟨.Call (.Name (b1N b) (xp (x1 pe))) [p.1] [] (xp pe),jS (PU h p.2)⟩
 |.bi2 b a c,pe=>gM (gK ns (b2N b)) fun h=>gM (nb c) fun hn=>(eU ns Γ a (l1 (xl pe))).bind fun p=>(eU ns Γ c (l2 (xl pe))).bind fun q=>some ⟨.Call (.Name (b2N b) (xp (x1 pe))) [p.1,q.1] [] (xp pe),jS (PV h p.2 q.2.ev (q.2.px' hn))⟩
 |.dget n a c,pe=>FU Γ n fun y h=>gM ((xp (x1 pe)).endLine==(xp pe).line) fun hl=>gM (nb c) fun hn=>(eU ns Γ a (l1 (xl pe))).bind fun p=>(eU ns Γ c (l2 (xl pe))).bind fun q=>some ⟨.Call (.Attribute (.Name y (xp (x1 (x1 pe)))) "get" (xp (x1 pe))) [p.1,q.1] [] (xp pe),jS (HR hl h p.2 q.2.ev (q.2.px' hn))⟩
 |.dpop n a c,pe=>FU Γ n fun y h=>gM ((xp (x1 pe)).endLine==(xp pe).line) fun hl=>gM (nb c) fun hn=>(eU ns Γ a (l1 (xl pe))).bind fun p=>(eU ns Γ c (l2 (xl pe))).bind fun q=>some ⟨.Call (.Attribute (.Name y (xp (x1 (x1 pe)))) "pop" (xp (x1 pe))) [p.1,q.1] [] (xp pe),jS (HS hl h p.2 q.2.ev (q.2.px' hn))⟩
 |.comp nv s ifs elt,pe=>(mkC (nv:=nv) pe (fun pair p=>WY ns Γ pair s p) (fun ns' Γ' p=>pL ns' Γ' ifs p) fun ns' Γ' p=>eU ns' Γ' elt p).bind fun c=>some ⟨.ListComp c.pelt [⟨c.target,c.iter,c.pifs,0⟩] c.scope (xp pe),QG (vT c.hnv c.hs c.hts c.helt c.htv c.F)⟩
 |.rank a,pe=>gM (gK ns "RANKS") fun h=>(eU ns Γ a (x2 pe)).bind fun p=>some ⟨.Subscript (.Name "RANKS" (xp (x1 pe))) p.1 (xp pe),mL (HT rfl h p.2)⟩
noncomputable def pL (ns:dL)(Γ:cZ):(es:List E)→List Expr→Option {pes // mM K ns Γ es pes}
 |[],_=>some ⟨[],.nil⟩
 |e::r,l=>(eU ns Γ e (l1 l)).bind fun p=>(pL ns Γ r l.tail).bind fun q=>some ⟨p.1::q.1,.cons p.2 q.2⟩
noncomputable def WY (ns:dL)(Γ:cZ)(pair:Bool):(s:Sr)→Expr→Option {pe // fD K ns Γ pair s pe}
 |.val a,pe=>(eU ns Γ a pe).bind fun p=>some ⟨p.1,DO p.2⟩
 |.rng1 a,pe=>gM (gK ns "range") fun h=>(eU ns Γ a (l1 (xl pe))).bind fun p=>some ⟨.Call (.Name "range" (xp (x1 pe))) [p.1] [] (xp pe),yD rfl h p.2⟩
 |.rng2 a b,pe=>gM (gK ns "range") fun h=>(eU ns Γ a (l1 (xl pe))).bind fun p=>(eU ns Γ b (l2 (xl pe))).bind fun q=>some ⟨.Call (.Name "range" (xp (x1 pe))) [p.1,q.1] [] (xp pe),yE rfl h p.2 q.2⟩
 |.enm a,pe=>gM (gK ns "enumerate") fun h=>gM pair fun hp=>(eU ns Γ a (l1 (xl pe))).bind fun p=>some ⟨.Call (.Name "enumerate" (xp (x1 pe))) [p.1] [] (xp pe),hp▸DP rfl h p.2⟩
 |.itm n,pe=>FU Γ n fun y h=>gM (!(io && Nat.beq n 0)) fun h2=>gM pair fun hp=>gM ((xp (x1 pe)).endLine==(xp pe).line) fun hl=>some ⟨.Call (.Attribute (.Name y (xp (x1 (x1 pe)))) "items" (xp (x1 pe))) [] [] (xp pe),hp▸DQ hl rfl h (JD hio h2)⟩
 |.srtE n,pe=>FU Γ n fun y h=>gM (gK ns "sorted") fun h2=>some ⟨.Call (.Name "sorted" (xp (x1 pe))) [.Name y (xp (l1 (xl pe)))] [] (xp pe),yF rfl h2 h⟩
end
end
structure Vs where
 t:Expr
 v:Expr
 b:List Stmt
 o:List Stmt
 h:List ExceptHandler
 p:Pos
 f:Option (Arguments×Scope)
noncomputable def vs (st:Stmt):Vs:=match st with
 |.Return v p=>⟨dx,v.getD dx,[],[],[],p,none⟩
 |.Assign t v p=>⟨l1 t,v,[],[],[],p,none⟩
 |.AugAssign t _ v p=>⟨t,v,[],[],[],p,none⟩
 |.For t v b _ p=>⟨t,v,b,[],[],p,none⟩
 |.While t b _ p=>⟨dx,t,b,[],[],p,none⟩
 |.If t a b p=>⟨dx,t,a,b,[],p,none⟩
 |.Try b h _ _ p=>⟨dx,dx,b,[],h,p,none⟩
 |.Expr v p=>⟨dx,v,[],[],[],p,none⟩
 |.Raise v _ p=>⟨dx,v.getD dx,[],[],[],p,none⟩
 |.ClassDef _ _ _ b _ _ _ _ _ _ p=>⟨dx,dx,b,[],[],p,none⟩
 |.FunctionDef _ a b _ _ _ sc _ _ p=>⟨dx,dx,b,[],[],p,some (a,sc)⟩
 |_=>⟨dx,dx,[],[],[],p0,none⟩
section
variable {K:Ct}(HC:cA K)(io:Bool)(hio:io=false→K.io=none)
noncomputable def QH {α:Type}(Γ:cZ)(i:Nat)(f:(y:Str)→Tg K Γ i y→Option α):Option α:=FU Γ i fun y h=>gM (!(io && Nat.beq i 0)) fun h2=>f y ⟨h,JD hio h2⟩
noncomputable def QI (Γ:cZ):(l:List Nat)→List Expr→Option {ts // AP K Γ l ts}
 |[],_=>some ⟨[],.nil⟩
 |i::l,ts=>QH io hio Γ i fun y h=>(QI Γ l ts.tail).bind fun r=>some ⟨.Name y (xp (l1 ts))::r.1,.cons h r.2⟩
noncomputable def akP (Γ:cZ)(l:List Nat)(t:Expr):Option {q:Bool×Expr // jG K Γ q.1 l q.2}:=match l with
 |[i]=>QH io hio Γ i fun y h=>some ⟨(false,.Name y (xp t)),.one h⟩
 |[i,j]=>(QI io hio Γ [i,j] (xl t)).bind fun r=>some ⟨(true,.Tuple r.1 (xk t) (xp t)),.two r.2⟩
 |_=>none
noncomputable def QJ (ns:dL)(Γ:cZ):(l:List Rv)→List Expr→Option {pes // kA K ns Γ l pes}
 |[],_=>some ⟨[],EE⟩
 |v::l,ts=>match v with
  |.e e=>(eU HC io hio ns Γ e (l1 ts)).bind fun p=>(QJ ns Γ l ts.tail).bind fun r=>some ⟨p.1::r.1,QD p.2 r.2⟩
  |.newL=>(QJ ns Γ l ts.tail).bind fun r=>some ⟨.List [] (xp (l1 ts))::r.1,yM r.2⟩
  |.newD=>(QJ ns Γ l ts.tail).bind fun r=>some ⟨.Dict [] [] (xp (l1 ts))::r.1,yN r.2⟩
theorem JE {ns:dL}{Γ:cZ}{e:E}{pe:Expr}(h:bX K ns Γ e pe)(n:(!bc e)=true):∀t l env,swapsWith pe t l env=pure false:=h.sw.resolve_left fun q=>by rw [q] at n;cases n
theorem UH {ns:dL}{Γ:cZ}{e:E}{pe:Expr}(h:bX K ns Γ e pe)(n:(!bt e)=true):∀ts k p l env,swapsWithSole [.Tuple ts k p] pe l env=pure false∧swappedStores [.Tuple ts k p] pe env=pure none:=h.un.resolve_left fun q=>by rw [q] at n;cases n
noncomputable def akQ (ns:dL)(Γ:cZ)(e:E)(v:Expr)(n:Nat)(y:Str)(yp pos:Pos)(h:Tg K Γ n y):Option {st // fN K ns Γ (.asg n e) st}:=match e with
 |.comp nv s ifs elt=>(mkC (nv:=nv) v (fun pair p=>WY HC io hio ns Γ pair s p) (fun ns' Γ' p=>pL HC io hio ns' Γ' ifs p) fun ns' Γ' p=>eU HC io hio ns' Γ' elt p).bind fun c=>some ⟨.Assign [.Name y yp] (.ListComp c.pelt [⟨c.target,c.iter,c.pifs,0⟩] c.scope (xp v)) pos,DW c.hnv c.hs c.hts c.helt c.htv c.F h⟩
 |e=>(eU HC io hio ns Γ e v).bind fun p=>gM (!bc e) fun hb=>some ⟨.Assign [.Name y yp] p.1 pos,IJ p.2.ev h (JE p.2 hb _)⟩
set_option smartUnfolding false in
mutual
noncomputable def prS (ns:dL)(Γ:cZ):(s:S)→Stmt→Option {st // fN K ns Γ s st}
 |.bad,st=>some ⟨st,IF⟩
 |.asg n e,st=>QH io hio Γ n fun y h=>akQ HC io hio ns Γ e (vs st).v n y (xp (vs st).t) (vs st).p h
 |.newL n,st=>QH io hio Γ n fun y h=>some ⟨.Assign [.Name y (xp (vs st).t)] (.List [] (xp (vs st).v)) (vs st).p,DY h⟩
 |.newD n,st=>QH io hio Γ n fun y h=>some ⟨.Assign [.Name y (xp (vs st).t)] (.Dict [] [] (xp (vs st).v)) (vs st).p,DZ h⟩
 |.newLi n es,st=>QH io hio Γ n fun y h=>(pL HC io hio ns Γ es (xl (vs st).v)).bind fun p=>gM (Nat.ble es.length jA) fun hl=>some ⟨.Assign [.Name y (xp (vs st).t)] (.List p.1 (xp (vs st).v)) (vs st).p,yK h p.2.all hl⟩
 |.cpD n e,st=>QH io hio Γ n fun y h=>gM (gK ns "dict") fun hg=>(eU HC io hio ns Γ e (l1 (xl (vs st).v))).bind fun p=>some ⟨.Assign [.Name y (xp (vs st).t)] (.Call (.Name "dict" (xp (x1 (vs st).v))) [p.1] [] (xp (vs st).v)) (vs st).p,IM rfl hg h p.2⟩
 |.mtD n e,st=>QH io hio Γ n fun y h=>gM (gK ns "dict") fun hg=>gM (gK ns "list") fun hk=>(eU HC io hio ns Γ e (l1 (xl (l1 (xl (vs st).v))))).bind fun p=>
   some ⟨.Assign [.Name y (xp (vs st).t)] (.Call (.Name "dict" (xp (x1 (vs st).v))) [.Call (.Name "list" (xp (x1 (l1 (xl (vs st).v))))) [p.1] [] (xp (l1 (xl (vs st).v)))] [] (xp (vs st).v)) (vs st).p,IN rfl hg rfl hk h p.2⟩
 |.unpE l es,st=>(QI io hio Γ l (xl (vs st).t)).bind fun t=>(QJ HC io hio ns Γ es (xl (vs st).v)).bind fun r=>gM (decide l.Nodup) fun h1=>gM (Nat.ble es.length jA) fun h2=>gM (r.1.all (foldedForSure 8)|| !(r.1.all (constantsAlone 8))) fun h3=>
   some ⟨.Assign [.Tuple t.1 (xk (vs st).t) (xp (vs st).t)] (.Tuple r.1 (xk (vs st).v) (xp (vs st).v)) (vs st).p,EF t.2 r.2 (of_decide_eq_true h1) h2 h3⟩
 |.unp l e,st=>(QI io hio Γ l (xl (vs st).t)).bind fun t=>(eU HC io hio ns Γ e (vs st).v).bind fun p=>gM (!bt e) fun h=>some ⟨.Assign [.Tuple t.1 (xk (vs st).t) (xp (vs st).t)] p.1 (vs st).p,IT t.2 p.2.ev (fun _ _=>(UH p.2 h _ _ _ _ _).1) fun env=>(UH p.2 h _ _ _ 0 env).2⟩
 |.setI n i e,st=>FU Γ n fun y h=>(eU HC io hio ns Γ i (x2 (vs st).t)).bind fun p=>(eU HC io hio ns Γ e (vs st).v).bind fun q=>gM (!bc e) fun hb=>some ⟨.Assign [.Subscript (.Name y (xp (x1 (vs st).t))) p.1 (xp (vs st).t)] q.1 (vs st).p,EB h p.2.ev q.2.ev (JE q.2 hb _)⟩
 |.aug n e,st=>QH io hio Γ n fun y h=>(eU HC io hio ns Γ e (vs st).v).bind fun p=>some ⟨.AugAssign (.Name y (xp (vs st).t)) .Add p.1 (vs st).p,IL h p.2.ev⟩
 |.app n e,st=>FU Γ n fun y h=>gM ((xp (x1 (vs st).v)).endLine==(xp (vs st).v).line) fun hl=>(eU HC io hio ns Γ e (l1 (xl (vs st).v))).bind fun p=>some ⟨.Expr (.Call (.Attribute (.Name y (xp (x1 (x1 (vs st).v)))) "append" (xp (x1 (vs st).v))) [p.1] [] (xp (vs st).v)) (vs st).p,IO hl h p.2 rfl⟩
 |.ext n e,st=>FU Γ n fun y h=>gM ((xp (x1 (vs st).v)).endLine==(xp (vs st).v).line) fun hl=>(eU HC io hio ns Γ e (l1 (xl (vs st).v))).bind fun p=>some ⟨.Expr (.Call (.Attribute (.Name y (xp (x1 (x1 (vs st).v)))) "extend" (xp (x1 (vs st).v))) [p.1] [] (xp (vs st).v)) (vs st).p,IP hl h p.2 rfl⟩
 |.ex e,st=>(eU HC io hio ns Γ e (vs st).v).bind fun p=>gM (!bc e) fun hb=>some ⟨.Expr p.1 (vs st).p,QB p.2.ev (JE p.2 hb _)⟩
 |.ret e,st=>(eU HC io hio ns Γ e (vs st).v).bind fun p=>some ⟨.Return (some p.1) (vs st).p,IG p.2.ev⟩
 |.ite t a b,st=>(eU HC io hio ns Γ t (vs st).v).bind fun p=>(yP ns Γ a (vs st).b).bind fun q=>(yP ns Γ b (vs st).o).bind fun r=>some ⟨.If p.1 q.1 r.1 (vs st).p,IH p.2.t q.2 r.2⟩
 |.whl t b,st=>(eU HC io hio ns Γ t (vs st).v).bind fun p=>(yP ns Γ b (vs st).b).bind fun q=>some ⟨.While p.1 q.1 [] (vs st).p,IQ p.2.t q.2⟩
 |.for l s b,st=>(akP io hio Γ l (vs st).t).bind fun t=>(WY HC io hio ns Γ t.1.1 s (vs st).v).bind fun p=>(yP ns Γ b (vs st).b).bind fun q=>some ⟨.For t.1.2 p.1 q.1 [] (vs st).p,IR t.2 p.2 q.2⟩
 |.tryS b,st=>match (vs st).h with
  |[]=>none
  |h::hs=>(yP ns Γ b (vs st).b).bind fun q=>some ⟨.Try q.1 (h::hs) [] [] (vs st).p,II q.2⟩
noncomputable def yP (ns:dL)(Γ:cZ):(l:List S)→List Stmt→Option {st // iP K ns Γ l st}
 |[],_=>some ⟨[],IE⟩
 |s::r,l=>(prS ns Γ s (l.headD (.Pass p0))).bind fun p=>(yP ns Γ r l.tail).bind fun q=>some ⟨p.1::q.1,DV p.2 q.2⟩
end
end
section
variable {kindOf:Str→Option NameKind}
theorem vU {n:Str}:∀{ns:List Str} {vs:List Value} {m:Str→Option Value},n∉ns→bindL kindOf (ns.zip vs) m n=m n:=fun {ns}=>by
 induction ns with
 |nil=>intro vs m _;rfl
 |cons a ns ih=>
  intro vs m h
  cases vs with
  |nil=>rfl
  |cons v vs=>
   rw [List.zip_cons_cons]
   unfold bindL
   rw [ih fun q=>h (.tail _ q)]
   split
   ·exact if_neg fun (e:n=a)=>h (e▸.head _)
   ·rfl
theorem vV {n:Str}:∀{ns:List Str} {vs:List Value} {m:Str→Option Value},n∉ns→bindC kindOf (ns.zip vs) m n=m n:=fun {ns}=>by
 induction ns with
 |nil=>intro vs m _;rfl
 |cons a ns ih=>
  intro vs m h
  cases vs with
  |nil=>rfl
  |cons v vs=>
   refine (Eq.symm List.zip_cons_cons)▸?_
   unfold bindC
   refine (Eq.symm (ih fun q=>h (.tail _ q)))▸?_
   split
   ·rfl
   ·exact if_neg fun (e:n=a)=>h (e▸.head _)
theorem rS {n:Str}{v:Value}(hk:kindOf n=some .local):∀{ns:List Str} {vs:List Value} {m:Str→Option Value} {i:Nat},ns.Nodup→ns[i]? =some n→vs[i]? =some v→bindL kindOf (ns.zip vs) m n=some v:=fun {ns}=>by
 induction ns with
 |nil=>intro vs m i _ h;cases h
 |cons a ns ih=>
  intro vs m i hn h1 h2
  cases vs with
  |nil=>cases h2
  |cons b vs=>
   refine (Eq.symm List.zip_cons_cons)▸?_
   unfold bindL
   cases i with
   |zero=>cases h1;cases h2;refine (Eq.symm (vU (List.nodup_cons.mp hn).1))▸?_;refine (Eq.symm (if_pos hk))▸?_;exact if_pos rfl
   |succ i=>exact ih (List.nodup_cons.mp hn).2 h1 h2
theorem EI {n:Str}{v:Value}(hk:kindOf n≠some .local):∀{ns:List Str} {vs:List Value} {m:Str→Option Value} {i:Nat},ns.Nodup→ns[i]? =some n→vs[i]? =some v→bindC kindOf (ns.zip vs) m n=some v:=fun {ns}=>by
 induction ns with
 |nil=>intro vs m i _ h;cases h
 |cons a ns ih=>
  intro vs m i hn h1 h2
  cases vs with
  |nil=>cases h2
  |cons b vs=>
   refine (Eq.symm List.zip_cons_cons)▸?_
   unfold bindC
   cases i with
   |zero=>cases h1;cases h2;refine (Eq.symm (vV (List.nodup_cons.mp hn).1))▸?_;refine (Eq.symm (if_neg hk))▸?_;exact if_pos rfl
   |succ i=>exact ih (List.nodup_cons.mp hn).2 h1 h2
end
theorem qW {x:Str}:∀{names:List (Str×NameKind)} {n:Nat} {acc:List (Str×Addr)},(acc.lookup x).isSome=true→((cellsFrom n names acc).lookup x).isSome=true:=fun {names}=>by
 induction names with
 |nil=>intro n acc h;exact h
 |cons p r ih=>
  obtain ⟨y,k⟩:=p
  intro n acc h
  unfold cellsFrom
  split
  ·refine ih ?_
   rw [List.lookup_cons]
   split
   ·rfl
   ·exact h
  ·exact ih h
theorem pM {x:Str}:∀{names:List (Str×NameKind)} {n:Nat} {acc:List (Str×Addr)},(x,NameKind.cell)∈names→((cellsFrom n names acc).lookup x).isSome=true:=fun {names}=>by
 induction names with
 |nil=>intro n acc h;cases h
 |cons p r ih=>
  obtain ⟨y,k⟩:=p
  intro n acc h
  unfold cellsFrom
  rcases List.mem_cons.mp h with e|h
  ·cases e
   refine (Eq.symm (if_pos (show (NameKind.cell==NameKind.cell)=true from rfl)))▸?_
   exact qW (by rw [List.lookup_cons,beq_self_eq_true];rfl)
  ·split
   ·exact ih h
   ·exact ih h
noncomputable def lS (scope:Scope)(L:Addr)(x:Str):Pl:=if scope.names.lookup x=some .local then .loc L x else .cel (((cellsFrom (L+1) scope.names []).lookup x).getD 0)
structure kP (scope:Scope)(vars:List Str):Prop where
 nd:vars.Nodup
 kind:∀x∈vars,scope.names.lookup x=some .local∨scope.names.lookup x=some .cell
 dbg:∀x∈vars,(x==("__debug__" :Str))=false∧(x==("__classdict__" :Str))=false
section
variable {scope:Scope}{vars:List Str}{L:Addr}{x:Str}{h h1:Heap}{m cm:Str→Option Value}
theorem kP.pl (H:kP scope vars)(hx:x∈vars):(scope.names.lookup x=some .local∧lS scope L x=.loc L x)∨
  (scope.names.lookup x≠some .local∧scope.names.lookup x=some .cell∧∃c,(cellsFrom (L+1) scope.names []).lookup x=some c∧lS scope L x=.cel c):=by
 by_cases hl:scope.names.lookup x=some .local
 ·exact .inl ⟨hl,if_pos hl⟩
 ·have hk:=(H.kind x hx).resolve_left hl
  obtain ⟨c,hc⟩:=Option.isSome_iff_exists.mp (pM (n:=L+1) (acc:=[]) (PySem.mem_of_lookup hk))
  exact .inr ⟨hl,hk,c,hc,by unfold lS;refine (Eq.symm (if_neg hl))▸?_;refine (Eq.symm hc)▸?_;rfl⟩
theorem QK (H:kP scope vars)(X:Cl L (cellsFrom (L+1) scope.names []) h1 cm)(hx:x∈vars):L≤(lS scope L x).addr:=by
 rcases H.pl (L:=L) hx with ⟨_,e⟩|⟨_,_,c,hc,e⟩
 ·refine (Eq.symm e)▸?_;exact Nat.le_refl _
 ·refine (Eq.symm e)▸?_;exact Nat.le_of_lt (X.above x c (PySem.mem_of_lookup hc))
theorem QL (H:kP scope vars)(X:Cl L (cellsFrom (L+1) scope.names []) h1 cm):(vars.map (lS scope L)).Nodup:=by
 rw [List.nodup_iff_pairwise_ne,List.pairwise_map]
 refine (List.nodup_iff_pairwise_ne.mp H.nd).imp_of_mem fun {a b} ha hb ne e=>?_
 rcases H.pl (L:=L) ha with ⟨_,e1⟩|⟨_,_,c,hc,e1⟩
 ·rcases H.pl (L:=L) hb with ⟨_,e2⟩|⟨_,_,c',hc',e2⟩
  ·rw [e1,e2] at e;cases e;exact ne rfl
  ·rw [e1,e2] at e;cases e
 ·rcases H.pl (L:=L) hb with ⟨_,e2⟩|⟨_,_,c',hc',e2⟩
  ·rw [e1,e2] at e;cases e
  ·rw [e1,e2] at e;cases e
   exact ne (PySem.name_of_addr X.apart (PySem.mem_of_lookup hc) (PySem.mem_of_lookup hc'))
theorem yQ (H:kP scope vars)(F:Fr h L h1 m)(X:Cl L (cellsFrom (L+1) scope.names []) h1 cm)(hx:x∈vars):there h1 (lS scope L x):=by
 rcases H.pl (L:=L) hx with ⟨_,e⟩|⟨_,_,c,hc,e⟩
 ·refine (Eq.symm e)▸?_;exact ⟨m,F.ns⟩
 ·refine (Eq.symm e)▸?_
  refine aD (X.cell x c hc) fun o ho hd=>?_
  exact (bM o _ ⟨ho,hd⟩)
theorem QM (H:kP scope vars)(F:Fr h L h1 m)(X:Cl L (cellsFrom (L+1) scope.names []) h1 cm){v:Value}(hx:x∈vars)(hm:scope.names.lookup x=some .local→m x=some v)(hc:scope.names.lookup x≠some .local→cm x=some v):rd h1 (lS scope L x) v:=by
 rcases H.pl (L:=L) hx with ⟨hl,e⟩|⟨hl,_,c,hc',e⟩
 ·refine (Eq.symm e)▸?_;exact ⟨m,F.ns,hm hl⟩
 ·refine (Eq.symm e)▸?_
  refine aD (X.cell x c hc') fun o ho hd=>?_
  exact ⟨o,ho,by refine (Eq.symm hd)▸?_;exact (Eq.symm (hc hl))▸rfl⟩
end
theorem fJ.at {P:Params}{h:Heap}{g:Gh}{io:Option Addr}{vs:List Value}{slots:List aE}(A:fJ P h g io vs slots){i:Nat}{sl:aE}(hi:slots[i]? =some sl):
  ∃v,vs[i]? =some v∧((∃a,io=some a∧i=0∧v=.ref a∧dB P g h a sl)∨((io=none∨i≠0)∧∃x,sl=.v x∧Rp P g v x)):=by
 cases io with
 |none=>
  refine aD A fun xs ahV r=>?_;subst ahV
  rw [List.getElem?_map] at hi
  refine aD (Option.map_eq_some_iff.mp hi) fun x h1 ahW=>?_;subst ahW
  refine aD (bJ.get r h1) fun v e q=>?_
  exact ⟨v,e,.inr ⟨.inl rfl,x,rfl,q⟩⟩
 |some a=>
  refine oO A fun sl0 xs rest ahX ahY ho r=>?_;subst ahX;subst ahY
  cases i with
  |zero=>cases hi;exact ⟨_,rfl,.inl ⟨a,rfl,rfl,rfl,ho⟩⟩
  |succ i=>
   rw [List.getElem?_cons_succ,List.getElem?_map] at hi
   refine aD (Option.map_eq_some_iff.mp hi) fun x h1 ahZ=>?_;subst ahZ
   refine aD (bJ.get r h1) fun v e q=>?_
   exact ⟨v,e,.inr ⟨.inr (Nat.succ_ne_zero _),x,rfl,q⟩⟩
theorem fJ.len {P:Params}{h:Heap}{g:Gh}{io:Option Addr}{vs:List Value}{slots:List aE}(A:fJ P h g io vs slots):vs.length=slots.length:=by
 cases io with
 |none=>refine aD A fun xs ah0 r=>?_;subst ah0;rw [bJ.length r,List.length_map]
 |some a=>refine oO A fun sl0 xs rest ah1 ah2 ho r=>?_;subst ah1;subst ah2;rw [List.length_cons,List.length_cons,bJ.length r,List.length_map]
structure qX (fn:Fn)(params:Arguments)(body:List Stmt)(scope:Scope):Prop where
 le:fn.arity≤fn.vars.length
 pos:fn.arity≠0
 vars:kP scope fn.vars
 bind:∀(vals:List Value) pm cd doc,vals.length=fn.arity→bindArgs (Calls.docDef fn.name params body scope pm cd doc) ⟨vals,[]⟩=pure ((fn.vars.take fn.arity).zip vals)
 ok:∀(K:Ct),cA K→(fn.io=false→K.io=none)→iP K scope.names (fn.vars.map some) fn.body body
def iC {w:World}(cx:Cx w):Prop:=∀(f:Nat) (fn:Fn),nS[f]? =some fn→∃params body scope fa,iS cx.bs cx.mg fn.name params body scope fa∧qX fn params body scope
noncomputable abbrev Ct.at (K:Ct) (A:Around) (hh:A.handled=none) (hu:A.units+300<cLine) (C:CF) (N:Nat) (io:Option Addr):Ct:={w:=K.w,cx:=K.cx,T:=K.T,A:=A,C:=C,N:=N,io:=io,hh:=hh,hu:=hu}
theorem dK.deeper {A:Around}{d:Nat}(h:dK A (d+1))(env:Env):dK (A.deeper env) d:=
 ⟨h.handled,Nat.le_trans (Nat.le_of_eq (Nat.add_right_comm A.depth 1 d)) h.depth,by have:=h.units;show A.units+3+4*d+400≤9900;lia⟩
theorem dK.dl {A:Around}{d:Nat}(h:dK A d):A.depth<1000:=Nat.lt_of_le_of_lt (Nat.le_trans (Nat.le_add_right _ _) h.depth) (by decide)
theorem dK.hu {A:Around}{d:Nat}(h:dK A d):A.units+300<cLine:=by have:=h.units;show A.units+300<9900;lia
section
variable {K:Ct}{fn:Fn}{params:Arguments}{body:List Stmt}{scope:Scope}{fa:Addr}{h:Heap}{out:Addr→Prop}{io:Option Addr}{args:List Value}{slots:List aE}{cd:Value}
theorem cP.lt (pre:cP K h out io){a:Addr}(x:out a):a<h.objs.size:=(pre.live a x).elim id fun ⟨_,g⟩=>Heap.lt_size g
theorem EJ {A:Around}{hh hu}{C:CF}(pre:cP K h out io)(AR:fJ K.w.params h (go h out) io args slots)(OK:qX fn params body scope)(hlen:slots.length=fn.arity){kindOf:Str→Option NameKind}(hk:∀x,kindOf x=scope.names.lookup x){h1:Heap}
  (F:Fr h h.objs.size h1 (bindL kindOf ((fn.vars.take fn.arity).zip args) fun _=>none)) (X:Cl h.objs.size (cellsFrom (h.objs.size+1) scope.names []) h1 (bindC kindOf ((fn.vars.take fn.arity).zip args) fun _=>none)):
  ∃B:Bs (K.at A hh hu C h.objs.size io).kx,B.out=out∧B.pls=fn.vars.map (lS scope h.objs.size)∧St B (io::List.replicate (fn.vars.length - 1) none) (slots++List.replicate (fn.vars.length - fn.arity) .un) h1:=by
 have plGe:∀p∈fn.vars.map (lS scope h.objs.size),h.objs.size≤p.addr:=fun p hp=>by
  refine aD (List.mem_map.mp hp) fun x hx ah3=>?_;subst ah3
  exact QK OK.vars X hx
 have ownIs:∀(i:Nat) (a:Addr),(io::List.replicate (fn.vars.length - 1) (none:Option Addr))[i]? =some (some a)→i=0∧io=some a:=fun i a e=>by
  cases i with
  |zero=>exact ⟨rfl,Option.some.inj e⟩
  |succ i=>rw [List.getElem?_cons_succ,List.getElem?_replicate] at e;split at e<;>cases e
 have v0:fn.vars.length≠0:=fun e=>OK.pos (Nat.le_zero.mp (e▸OK.le))
 let B:Bs (K.at A hh hu C h.objs.size io).kx:=
  {out:=out,pls:=fn.vars.map (lS scope h.objs.size),tbN:=fun a t=>⟨(pre.tb a t).2,(pre.tb a t).1,fun e=>(pre.io a e).2.1 t⟩,bas:=fun a o e=>aF (pre.base a o e) fun g n=>⟨Heap.lt_size g,n,fun q=>n (pre.io a q).1⟩,
   pl:=fun p hp=>⟨plGe p hp,fun x=>absurd (pre.lt x) (Nat.not_lt.mpr (plGe p hp))⟩,pnd:=QL OK.vars X,ne:=fun e=>v0 (List.length_eq_zero_iff.mpr (List.map_eq_nil_iff.mp e)),ioN:=fun a e=>⟨pre.lt (pre.io a e).1,(pre.io a e).2.2⟩,sys:=pre.sys}
 have notX:∀a,Xs B (io::List.replicate (fn.vars.length - 1) none) a→a<h.objs.size→out a:=fun a x lt=>x.elim id fun x=>x.elim (fun ⟨p,hp,e⟩=>absurd lt (Nat.not_lt.mpr (e▸plGe p hp))) fun x=>aR (ix x) fun i hi=>(pre.io a (ownIs i a hi).2).1
 have hg:∀a o,go h out a o→gv B (io::List.replicate (fn.vars.length - 1) none) h1 a o:=fun a o g=>⟨F.keep a o g.1,fun x=>g.2 (notX a x (Heap.lt_size g.1))⟩
 have ndT:(fn.vars.take fn.arity).Nodup:=OK.vars.nd.sublist (List.take_sublist ..)
 have lenR:(slots++List.replicate (fn.vars.length - fn.arity) aE.un).length=fn.vars.length:=by refine (Eq.symm List.length_append)▸?_;refine (Eq.symm List.length_replicate)▸?_;refine (Eq.symm hlen)▸?_;exact Nat.add_sub_cancel' OK.le
 refine ⟨B,rfl,rfl,fun a o e=>F.keep a o (pre.base a o e).1,fun a x=>.inl (pre.lt x),fun i a e=>.inr (ownIs i a e),by refine (Eq.symm lenR)▸?_;exact List.length_map ..,by refine (Eq.symm lenR)▸?_;refine (Eq.symm List.length_cons)▸?_;refine (Eq.symm List.length_replicate)▸?_;exact Nat.succ_pred_eq_of_ne_zero v0,fun i p sl oa h1' h2 h3=>?_,
  fun i a e x=>?_,fun i j a e1 e2=>(ownIs i a e1).1.trans (ownIs j a e2).1.symm,K.T.mono _ _ (fun a o g=>⟨F.keep a o g.1,g.2.imp id fun n x=>n (notX a x (Heap.lt_size g.1))⟩) pre.ti,fun a e=>congrArg some e⟩
 ·replace h1':(fn.vars.map (lS scope h.objs.size))[i]? =some p:=h1'
  rw [List.getElem?_map] at h1'
  refine aD (Option.map_eq_some_iff.mp h1') fun x hx ah4=>?_;subst ah4
  have hxm:=List.mem_of_getElem? hx
  rcases Nat.lt_or_ge i slots.length with lt|ge
  ·rw [List.getElem?_append_left lt] at h2
   refine aD (AR.at h2) fun v hv q=>?_
   have hxt:(fn.vars.take fn.arity)[i]? =some x:=by refine (Eq.symm List.getElem?_take)▸?_;refine (Eq.symm (if_pos (hlen▸lt)))▸?_;exact hx
   have hrd:rd h1 (lS scope h.objs.size x) v:=QM OK.vars F X hxm (fun hl=>rS ((hk x).trans hl) ndT hxt hv) fun hl=>EI (fun e=>hl ((hk x).symm.trans e)) ndT hxt hv
   rcases q with ⟨a,e,rfl,rfl,ho⟩|⟨hz,y,rfl,r⟩
   ·cases (Option.some.inj h3:io=oa)
    subst e
    exact ⟨hrd,ho.move hg fun o g=>F.keep _ o g⟩
   ·have hoa:oa=none:=by
     cases oa with
     |none=>rfl
     |some a=>refine aF (ownIs i a h3) fun e1 e2=>?_;exact hz.elim (fun z=>by rw [z] at e2;cases e2) fun z=>absurd e1 z
    subst hoa
    exact ⟨v,hrd,r.mono hg⟩
  ·rw [List.getElem?_append_right ge,List.getElem?_replicate] at h2
   split at h2
   ·cases h2
    have hoa:oa=none:=by
     cases oa with
     |none=>rfl
     |some a=>exact absurd (hlen▸ge) (by refine (Eq.symm ((ownIs i a h3).1))▸?_;exact fun q=>OK.pos (Nat.le_zero.mp q))
    subst hoa
    exact yQ OK.vars F X hxm
   ·cases h2
 ·refine aD x fun p hp e'=>?_
  exact absurd (pre.lt (pre.io a (ownIs i a e).2).1) (Nat.not_lt.mpr (e'▸plGe p hp))
structure gQ {K':Ct}(B:cU K' scope.names (fn.vars.map some))(σ:Pt)(s:Shared)(fn:Fn)(out:Addr→Prop)(io:Option Addr)(slots:List aE)(env:Env):Prop where
 env:B.env=env
 out:B.out=out
 pls:B.pls=fn.vars.map (lS scope s.heap.objs.size)
 S:dZ B.toBs σ
 ρ:σ.ρ=slots++List.replicate (fn.vars.length - fn.arity) .un
 own:σ.own=io::List.replicate (fn.vars.length - 1) none
 up:Up s σ.s
 keep:iG s.heap σ.s.heap
 loc:∃m,σ.s.heap.Ns s.heap.objs.size m
theorem gA (hroom:K.A.depth<1000)(FA:iS K.cx.bs K.cx.mg fn.name params body scope fa)(OK:qX fn params body scope)(hlen:slots.length=fn.arity){s:Shared}(pre:cP K s.heap out io)(AR:fJ K.w.params s.heap (go s.heap out) io args slots)(C:CF)
  (hd:∀env,(K.A.deeper env).handled=none∧(K.A.deeper env).units+300<cLine) {R:Result→Shared→Prop}
  (h:∀cd,(∃o pm doc,K.cx.bs.get? fa=some o∧o.data=.func (Calls.docDef fn.name params body scope pm cd doc))→∀(B:cU (K.at (K.A.deeper (envOfC fn.name scope s.heap.objs.size fa cd)) (hd _).1 (hd _).2 C s.heap.objs.size io) scope.names (fn.vars.map some)) σ,
   gQ B σ s fn out io slots (envOfC fn.name scope s.heap.objs.size fa cd)→
   wpAny K.M (K.A.deeper (envOfC fn.name scope s.heap.objs.size fa cd)) (execs body B.env) (fun f s'=>R (.ok (.ret (match f with|.ret v=>v|_=>.none))) s') (fun e s'=>wpAny K.M (K.A.deeper (envOfC fn.name scope s.heap.objs.size fa cd)) (leaving B.env e) (fun _ s''=>R (.error e) s'') (fun e' s''=>R (.error e') s'') s') σ.s):
  codeAny K.M K.A (.call (.ref fa) ⟨args,[]⟩) R s:=by
 refine GA FA.obj fun o pm cd doc hbs hdata hcode=>?_
 have hbs':∀a o,K.cx.bs.get? a=some o→s.heap.get? a=some o:=fun a o e=>(pre.base a o e).1
 refine call_cells (binds:=(fn.vars.take fn.arity).zip args) hroom (hbs' _ _ hbs) hdata (K.cx.nolim.keeps hbs') (hcode.keeps hbs') (OK.bind args pm cd doc (AR.len.trans hlen)) (fun x hx=>?_) (fun h1 tk F X=>?_) FA.co FA.gen FA.kind
 ·have hx1:x.1∈fn.vars:=List.mem_of_mem_take (List.of_mem_zip (show (x.1,x.2)∈_ from hx)).1
  exact (OK.vars.pl (L:=s.heap.objs.size) hx1).imp And.left fun ⟨_,h1,c,h2,_⟩=>⟨h1,by refine (Eq.symm h2)▸?_;rfl⟩
 ·refine eM (EJ (A:=K.A.deeper (envOfC fn.name scope s.heap.objs.size fa cd)) (hh:=(hd _).1) (hu:=(hd _).2) (C:=C) pre AR OK hlen (kindOf:=(envOfC fn.name scope s.heap.objs.size fa cd).kindOf) (fun _=>rfl) F X) fun B0 hout hpls S=>?_
  have hB:fA (envOfC fn.name scope s.heap.objs.size fa cd) (fn.vars.map some) B0.pls:=by
   have var:∀(i:Nat) (x:Str),(fn.vars.map some)[i]? =some (some x)→fn.vars[i]? =some x:=fun i x hx=>by
    rw [List.getElem?_map] at hx
    refine aD (Option.map_eq_some_iff.mp hx) fun y hy e=>?_
    cases e;exact hy
   refine ⟨FA.kind,rfl,rfl,fun i x hx=>?_,fun i x hx=>OK.vars.dbg x (List.mem_of_getElem? (var i x hx)),by rw [hpls,List.length_map,List.length_map]⟩
   have hy:=var i x hx
   refine (Eq.symm hpls)▸?_;refine (Eq.symm List.getElem?_map)▸?_;refine (Eq.symm hy)▸?_
   exact (OK.vars.pl (L:=s.heap.objs.size) (List.mem_of_getElem? hy)).imp (fun ⟨hl,e⟩=>⟨hl,congrArg some e⟩) fun ⟨_,q1,c,q2,q3⟩=>⟨.inl q1,c,q2,congrArg some q3⟩
  exact h cd (gE o pm doc ⟨hbs,hdata⟩) ⟨B0,envOfC fn.name scope s.heap.objs.size fa cd,hB,fun _ h=>h,fun _ h=>h⟩ ⟨_,_,{s with heap:=h1,toks:=tk}⟩ ⟨rfl,hout,hpls,S,rfl,rfl,rfl,F.keep,_,F.ns⟩
theorem AW {A:Around}{hh hu}{C:CF}{s:Shared}{B:cU (K.at A hh hu C s.heap.objs.size io) scope.names (fn.vars.map some)}{σ σ':Pt}{env:Env}(EN:gQ B σ s fn out io slots env)(G:fK B.toBs [] σ σ')(hio:io.isSome=fn.io){v:Value}{x r:V}{sl:aE}(hv:Vl B.toBs σ' v x)(hf:aC fn.io x σ'.ρ=some (r,sl)):
  lP K s.heap out io r sl σ'.s.heap v:=by
 have hgv:∀b o,gS B.toBs σ' b o→go σ'.s.heap out b o:=fun b o g=>⟨g.1,fun y=>g.2 (.inl (EN.out▸y))⟩
 have hk:∀a o,s.heap.get? a=some o→¬K.T.tb a→io≠some a→σ'.s.heap.get? a=some o:=fun a o g t n=>G.w.k a o (EN.keep a o g) t (fun ⟨p,hp,e⟩=>absurd (Heap.lt_size g) (Nat.not_lt.mpr (e▸(B.pl p hp).1))) fun m=>by
  rw [EN.own] at m
  exact (List.mem_cons.mp m).elim (fun e=>n e.symm) fun m=>(nomatch (List.mem_replicate.mp m).2)
 have ti:K.T.inv fun a o=>σ'.s.heap.get? a=some o∧(K.T.tb a∨¬out a):=K.T.mono _ _ (fun a o g=>⟨g.1,g.2.imp id fun n y=>n (.inl (EN.out▸y))⟩) G.S.ti
 have hr:r=x∧(fn.io=true→σ'.ρ.at 0=sl∧aP sl=true):=by
  unfold aC at hf
  cases e:fn.io with
  |false=>rw [e] at hf;cases hf;exact ⟨rfl,nofun⟩
  |true=>rw [e] at hf;refine aF (aA hf) fun h1 h2=>?_;cases h2;exact ⟨rfl,fun _=>⟨rfl,h1⟩⟩
 refine ⟨hk,ti,hr.1▸hv.mono hgv,fun a e=>?_⟩
 refine aF (hr.2 (by refine hio▸?_;refine (Eq.symm e)▸?_;rfl)) fun e1 how=>?_
 refine bN (G.S.get (Fm.at_some e1 fun q=>by rw [q] at how;cases how)) fun p oa q1 q2 k=>?_
 rw [G.S.own0 a e] at q2;cases q2
 exact k.2.move hgv fun _ g=>g
theorem EK {d:Nat}(RM:dK K.A (d+1))(FA:iS K.cx.bs K.cx.mg fn.name params body scope fa)(OK:qX fn params body scope){C:CF}{r:V}{sl:aE}(hrun:hU C glb fn slots=some (r,sl))(hb:∀(A:Around) hh hu N io,dK A d→cA (K.at A hh hu C N io))
  {s:Shared} (pre:cP K s.heap out io) (AR:fJ K.w.params s.heap (go s.heap out) io args slots) (hio:io.isSome=fn.io) {R:Result→Shared→Prop} (hp:∀h' tk v,lP K s.heap out io r sl h' v→R (.ok (.ret v)) {s with heap:=h',toks:=tk}):codeAny K.M K.A (.call (.ref fa) ⟨args,[]⟩) R s:=by
 refine aF (aA hrun) fun hargs hev=>?_
 have hlen:=Nat.eq_of_beq_eq_true (eY hargs).1
 refine gA RM.dl FA OK hlen pre AR C (fun env=>⟨RM.handled,(RM.deeper env).hu⟩) fun cd _ B σ EN=>?_
 have upd:∀{σ':Pt},Up σ.s σ'.s→σ'.s={s with heap:=σ'.s.heap,toks:=σ'.s.toks}:=fun u=>EN.up.trans u
 have io':fn.io=false→io=none:=fun e=>by rw [e] at hio;cases io with|none=>rfl|some _=>cases hio
 refine OK.ok _ (hb _ _ _ _ _ (RM.deeper _)) io' B σ _ _ _ _ _ _ EN.S (by rw [EN.ρ];exact hev) (fun σ' G k1=>?_) fun σ' v x G hv k1=>?_
 ·have:=hp σ'.s.heap σ'.s.toks .none (AW EN G hio (x:=.none) rfl k1)
  rw [upd G.u];exact this
 ·have:=hp σ'.s.heap σ'.s.toks v (AW EN G hio hv k1)
  rw [upd G.u];exact this
end
theorem aG (s:aE)(r:Fm):Fm.at (s::r) 0=s:=rfl
theorem aH (s:aE)(r:Fm)(i:Nat):Fm.at (s::r) (i+1)=Fm.at r i:=rfl
theorem bF (a:aE)(r l:List aE):(a::r)++l=a::(r++l):=rfl
theorem bL (l:List aE):[]++l=l:=rfl
theorem aI {α:Type}(a b:α):cond true a b=a:=rfl
theorem aN {α:Type}(a b:α):cond false a b=b:=rfl
theorem bO (b:Bool):(true && b)=b:=rfl
theorem bP (b:Bool):(false && b)=false:=rfl
theorem aB {α β:Type}(a:α)(f:α→Option β):(some a).bind f=f a:=rfl
theorem eN:glb[0]? =some (.tup [(.int 0),(.int 1)]):=rfl
theorem iQ:glb[1]? =some (.tup [(.int 1),(.int 1)]):=rfl
theorem JF:glb[2]? =some (.tup [(.tup []),(.tup [(.int 0),(.int 1)]),(.int 0)]):=rfl
theorem abT:glb[3]? =some (.tup [(.str 0),(.int 0),(.int 1)]):=rfl
theorem UI:glb[4]? =some (.tup [(.str 0),(.int 1),(.int 1)]):=rfl
theorem UJ:glb[5]? =some (.tup [(.str 0),(.int (-1)),(.int 1)]):=rfl
theorem JG:glb[6]? =some (.tup [(.str 0),(.int 0),(.int 1)]):=rfl
theorem vW:glb[7]? =some (.tup [(.str 0),(.int 1),(.int 1)]):=rfl
theorem UK:glb[8]? =some (.tup [(.str 5),(.str 6),(.tup [(.tup [(.str 0),(.int 1),(.int 1)])])]):=rfl
theorem UL:glb[9]? =some (.str 20):=rfl
theorem JH:glb[10]? =some (.str 23):=rfl
theorem JI:glb[11]? =some (.int 3):=rfl
theorem WZ:glb[12]? =some (.int 24):=rfl
theorem JJ:glb[13]? =some (.tup [(.str 1),(.str 20)]):=rfl
theorem JK:glb[14]? =some (.tup [(.str 1),(.str 21)]):=rfl
theorem JL:glb[15]? =some (.tup [(.str 1),(.str 17)]):=rfl
theorem akR:glb[16]? =some (.tup [(.str 0),(.int 1),(.int 2)]):=rfl
theorem akS:glb[17]? =some (.tup [(.str 0),(.int (-1)),(.int 1)]):=rfl
noncomputable def sg0:{g:CF→V→V→Option (V×aE) // ∀C a b,aU C glb f_gcd.body _ [.v a,.v b] (aC false .none) (aC false)=g C a b}:=⟨_,by intro C a b;conv=>lhs;dsimp only [f_gcd,aU,kS,kE,bW,rB,aG,aH,List.map,aC,List.set,List.length,fE,fF,aW,bF,bL,aI,aN,aP,cL,bK,hJ,aB]⟩
noncomputable def sg2:{g:CF→V→V→Option (V×aE) // ∀C a b,aU C glb f_radd.body _ [.v a,.v b] (aC false .none) (aC false)=g C a b}:=⟨_,by intro C a b;conv=>lhs;dsimp only [f_radd,aU,kS,kE,bW,aG,aH,List.map,aC,List.set,List.length,aI,aN,aP,cL,aB]⟩
noncomputable def sg3:{g:CF→V→V→Option (V×aE) // ∀C a b,aU C glb f_rsub.body _ [.v a,.v b] (aC false .none) (aC false)=g C a b}:=⟨_,by intro C a b;conv=>lhs;dsimp only [f_rsub,aU,kS,kE,bW,aG,aH,List.map,aC,List.set,List.length,aI,aN,aP,cL,aB]⟩
noncomputable def sg4:{g:CF→V→V→Option (V×aE) // ∀C a b,aU C glb f_rmul.body _ [.v a,.v b] (aC false .none) (aC false)=g C a b}:=⟨_,by intro C a b;conv=>lhs;dsimp only [f_rmul,aU,kS,kE,bW,aG,aH,List.map,aC,List.set,List.length,aI,aN,aP,cL,aB]⟩
noncomputable def sg5:{g:CF→V→V→Option (V×aE) // ∀C a b,aU C glb f_rdiv.body _ [.v a,.v b] (aC false .none) (aC false)=g C a b}:=⟨_,by intro C a b;conv=>lhs;dsimp only [f_rdiv,aU,kS,kE,bW,aG,aH,List.map,aC,List.set,List.length,aI,aN,aP,cL,aB]⟩
noncomputable def sg6:{g:CF→V→Option (V×aE) // ∀C a,aU C glb f_rneg.body _ [.v a] (aC false .none) (aC false)=g C a}:=⟨_,by intro C a;conv=>lhs;dsimp only [f_rneg,aU,kS,kE,bW,aG,aH,List.map,aC,List.set,List.length,aI,aN,aP,cL,aB]⟩
noncomputable def sg7:{g:CF→V→Option (V×aE) // ∀C a,aU C glb f_rinv.body _ [.v a] (aC false .none) (aC false)=g C a}:=⟨_,by intro C a;conv=>lhs;dsimp only [f_rinv,aU,kS,kE,bW,aG,aH,List.map,aC,List.set,List.length,aI,aN,aP,aB]⟩
noncomputable def sg8:{g:CF→V→V→Option (V×aE) // ∀C a b,aU C glb f_rpower.body _ [.v a,.v b] (aC false .none) (aC false)=g C a b}:=⟨_,by intro C a b;conv=>lhs;dsimp only [f_rpower,aU,kS,kE,bW,rB,aG,aH,List.map,aC,List.set,List.length,fF,aW,bF,bL,aJ,aK,bO,bP,aI,aN,aP,cL,bK,aB]⟩
noncomputable def sg9:{g:CF→V→V→Option (V×aE) // ∀C a b,aU C glb f_rcompare.body _ [.v a,.v b,.un] (aC false .none) (aC false)=g C a b}:=⟨_,by intro C a b;conv=>lhs;dsimp only [f_rcompare,aU,kS,kE,bW,aG,aH,List.map,aC,List.set,List.length,aI,aN,aP,cL,bK,aB]⟩
noncomputable def abV:{g:CF→List (V×V)→V→V→Option (V×aE) // ∀C a b c,aU C glb f_ginsert.body _ [.d a,.v b,.v c,.un] (aC true .none) (aC true)=g C a b c}:=⟨_,by intro C a b c;conv=>lhs;dsimp only [f_ginsert,aU,kS,kE,bW,aG,aH,List.map,aC,List.set,List.length,aJ,aK,bO,bP,aI,aN,aP,qK,qM,bK,aB,eN]⟩
noncomputable def abW:{g:CF→V→V→Option (V×aE) // ∀C a b,aU C glb f_gadd.body _ [.v a,.v b,.un,.un] (aC false .none) (aC false)=g C a b}:=⟨_,by intro C a b;conv=>lhs;dsimp only [f_gadd,aU,kS,kE,bW,gJ,aG,aH,List.map,aC,List.set,List.length,fE,fF,bE,aW,aJ,aK,bO,bP,aI,aN,aP,qK,qM,aB]⟩
noncomputable def abX:{g:CF→V→V→Option (V×aE) // ∀C a b,aU C glb f_poly_sum.body _ [.v a,.v b,.un,.un,.un] (aC false .none) (aC false)=g C a b}:=⟨_,by intro C a b;conv=>lhs;dsimp only [f_poly_sum,aU,kS,kE,bW,cM,gJ,aG,aH,List.map,aC,List.set,List.length,fE,fF,fX,bE,aW,bF,bL,aJ,aK,bO,bP,aI,aN,aP,qK,qM,hJ,aB,eN]⟩
noncomputable def abY:{g:CF→V→V→Option (V×aE) // ∀C a b,aU C glb f_kind_product.body _ [.v a,.v b] (aC false .none) (aC false)=g C a b}:=⟨_,by intro C a b;conv=>lhs;dsimp only [f_kind_product,aU,kS,kE,bW,aG,aH,List.map,aC,List.set,List.length,aI,aN,aP,cL,aB]⟩
noncomputable def abZ:{g:CF→V→V→Option (V×aE) // ∀C a b,aU C glb f_gmul.body _ [.v a,.v b,.un,.un,.un] (aC false .none) (aC false)=g C a b}:=⟨_,by intro C a b;conv=>lhs;dsimp only [f_gmul,aU,kS,kE,bW,gJ,aG,aH,List.map,aC,List.set,List.length,fE,fF,bE,aW,aJ,aK,bO,bP,aI,aN,aP,qK,qM,aB]⟩
noncomputable def ab0:{g:CF→V→V→Option (V×aE) // ∀C a b,aU C glb f_kind_compare.body _ [.v a,.v b,.un,.un] (aC false .none) (aC false)=g C a b}:=⟨_,by intro C a b;conv=>lhs;dsimp only [f_kind_compare,aU,kS,kE,bW,cM,gJ,aG,aH,List.map,aC,List.set,List.length,fE,fF,fX,bE,aW,bF,bL,aJ,aK,bO,bP,aI,aN,aP,qK,qM,cL,bK,hJ,aB]⟩
noncomputable def ab1:{g:CF→V→Option (V×aE) // ∀C a,aU C glb f_fastest.body _ [.v a,.un,.un] (aC false .none) (aC false)=g C a}:=⟨_,by intro C a;conv=>lhs;dsimp only [f_fastest,aU,kS,kE,bW,uV,gJ,aG,aH,List.map,aC,List.set,List.length,fE,fF,bE,aW,aJ,aK,bO,bP,aI,aN,aP,bK,aB]⟩
noncomputable def ab2:{g:CF→V→V→Option (V×aE) // ∀C a b,aU C glb f_gratio_power.body _ [.v a,.v b,.un,.un,.un,.un] (aC false .none) (aC false)=g C a b}:=⟨_,by intro C a b;conv=>lhs;dsimp only [f_gratio_power,aU,kS,kE,bW,gJ,aG,aH,List.map,aC,List.set,List.length,fE,fF,bE,aW,aJ,aK,bO,bP,aI,aN,aP,bK,hJ,aB,iQ,JF]⟩
noncomputable def ab3:{g:CF→V→V→Option (V×aE) // ∀C a b,aU C glb f_growth_of.body _ [.v a,.v b,.un,.un,.un] (aC false .none) (aC false)=g C a b}:=⟨_,by intro C a b;conv=>lhs;dsimp only [f_growth_of,aU,kS,kE,bW,cM,gJ,aG,aH,List.map,aC,List.set,List.length,fE,fF,bE,aW,aJ,aK,bO,bP,aI,aN,aP,bK,aB,iQ,JF]⟩
noncomputable def ab4:{g:CF→V→V→Option (V×aE) // ∀C a b,aU C glb f_growth_of_other.body _ [.v a,.v b,.un] (aC false .none) (aC false)=g C a b}:=⟨_,by intro C a b;conv=>lhs;dsimp only [f_growth_of_other,aU,kS,kE,bW,cM,aG,aH,List.map,aC,List.set,List.length,aJ,aK,bO,bP,aI,aN,aP,bK,hJ,aB,eN,iQ,JF]⟩
noncomputable def ab5:{g:CF→V→Option (V×aE) // ∀C a,aU C glb f_far_limit.body _ [.v a,.un,.un,.un,.un] (aC false .none) (aC false)=g C a}:=⟨_,by intro C a;conv=>lhs;dsimp only [f_far_limit,aU,kS,kE,bW,rB,aG,aH,List.map,aC,List.set,List.length,fF,aW,bF,bL,aJ,aK,bO,bP,aI,aN,aP,bK,aB,eN]⟩
noncomputable def ab6:{g:CF→V→V→Option (V×aE) // ∀C a b,aU C glb f_cut.body _ [.v a,.v b] (aC false .none) (aC false)=g C a b}:=⟨_,by intro C a b;conv=>lhs;dsimp only [f_cut,aU,kS,kE,bW,aG,aH,List.map,aC,List.set,List.length,aI,aN,aP,cL,hJ,aB,eN]⟩
noncomputable def XA:{g:CF→V→V→Option (V×aE) // ∀C a b,aU C glb f_sadd.body _ [.v a,.v b] (aC false .none) (aC false)=g C a b}:=⟨_,by intro C a b;conv=>lhs;dsimp only [f_sadd,aU,kS,kE,bW,cM,gJ,aG,aH,List.map,aC,List.set,List.length,fE,fF,fX,bE,aW,bF,bL,aJ,aK,bO,bP,aI,aN,aP,qK,qM,hJ,AF,aB]⟩
noncomputable def ab7:{g:CF→V→V→V→Option (V×aE) // ∀C a b c,aU C glb f_mixed.body _ [.v a,.v b,.v c,.un,.un] (aC false .none) (aC false)=g C a b c}:=⟨_,by intro C a b c;conv=>lhs;dsimp only [f_mixed,aU,kS,kE,bW,cM,gJ,aG,aH,List.map,aC,List.set,List.length,fE,fF,bE,aW,aJ,aK,bO,bP,aI,aN,aP,cL,bK,aB,eN]⟩
noncomputable def ab8:{g:CF→V→V→Option (V×aE) // ∀C a b,aU C glb f_smul.body _ [.v a,.v b] (aC false .none) (aC false)=g C a b}:=⟨_,by intro C a b;conv=>lhs;dsimp only [f_smul,aU,kS,kE,bW,cM,gJ,aG,aH,List.map,aC,List.set,List.length,fE,fF,fX,bE,aW,bF,bL,aJ,aK,bO,bP,aI,aN,aP,qK,qM,hJ,AF,aB]⟩
noncomputable def ab9:{g:CF→V→Option (V×aE) // ∀C a,aU C glb f_sinverse.body _ [.v a,.un,.un,.un,.un] (aC false .none) (aC false)=g C a}:=⟨_,by intro C a;conv=>lhs;dsimp only [f_sinverse,aU,kS,kE,bW,cM,gJ,aG,aH,List.map,aC,List.set,List.length,fE,fF,bE,aW,bF,bL,aJ,aK,bO,bP,aI,aN,aP,qK,qM,cL,bK,hJ,aB,eN,iQ]⟩
noncomputable def acA:{g:CF→V→V→Option (V×aE) // ∀C a b,aU C glb f_need_begin.body _ [.v a,.v b] (aC false .none) (aC false)=g C a b}:=⟨_,by intro C a b;conv=>lhs;dsimp only [f_need_begin,aU,kS,kE,bW,cM,aG,aH,List.map,aC,List.set,List.length,aJ,aK,bO,bP,aI,aN,aP,bK,hJ,aB]⟩
noncomputable def acB:{g:CF→V→Option (V×aE) // ∀C a,aU C glb f_sexp.body _ [.v a,.un,.un,.un,.un] (aC false .none) (aC false)=g C a}:=⟨_,by intro C a;conv=>lhs;dsimp only [f_sexp,aU,kS,kE,bW,gJ,aG,aH,List.map,aC,List.set,List.length,fE,fF,bE,aW,bF,bL,aJ,aK,bO,bP,aI,aN,aP,qK,qM,cL,bK,hJ,aB,eN,iQ]⟩
noncomputable def acC:{g:CF→V→Option (V×aE) // ∀C a,aU C glb f_ssin_cos.body _ [.v a,.un,.un,.un,.un,.un,.un,.un] (aC false .none) (aC false)=g C a}:=⟨_,by intro C a;conv=>lhs;dsimp only [f_ssin_cos,aU,kS,kE,bW,gJ,rB,aG,aH,List.map,aC,List.set,List.length,fE,fF,bE,aW,bF,bL,aJ,aK,bO,bP,aI,aN,aP,qK,qM,cL,bK,hJ,aB,eN,iQ]⟩
noncomputable def acD:{g:CF→V→Option (V×aE) // ∀C a,aU C glb f_ssin.body _ [.v a] (aC false .none) (aC false)=g C a}:=⟨_,by intro C a;conv=>lhs;dsimp only [f_ssin,aU,kS,kE,bW,aG,aH,List.map,aC,List.set,List.length,aI,aN,aP,aB]⟩
noncomputable def acE:{g:CF→V→V→Option (V×aE) // ∀C a b,aU C glb f_swhole_power.body _ [.v a,.v b,.un,.un,.un] (aC false .none) (aC false)=g C a b}:=⟨_,by intro C a b;conv=>lhs;dsimp only [f_swhole_power,aU,kS,kE,bW,rB,aG,aH,List.map,aC,List.set,List.length,fE,fF,aW,bF,bL,aJ,aK,bO,bP,aI,aN,aP,cL,bK,hJ,aB,iQ]⟩
noncomputable def acF:{g:CF→V→V→Option (V×aE) // ∀C a b,aU C glb f_lplain.body _ [.v a,.v b] (aC false .none) (aC false)=g C a b}:=⟨_,by intro C a b;conv=>lhs;dsimp only [f_lplain,aU,kS,kE,bW,aG,aH,List.map,aC,List.set,List.length,aI,aN,aP,cL,aB,eN]⟩
noncomputable def XB:{g:CF→V→V→Option (V×aE) // ∀C a b,aU C glb f_lmoved.body _ [.v a,.v b] (aC false .none) (aC false)=g C a b}:=⟨_,by intro C a b;conv=>lhs;dsimp only [f_lmoved,aU,kS,kE,bW,aG,aH,List.map,aC,List.set,List.length,aI,aN,aP,cL,aB,eN]⟩
noncomputable def XC:{g:CF→V→V→Option (V×aE) // ∀C a b,aU C glb f_ladd.body _ [.v a,.v b,.un] (aC false .none) (aC false)=g C a b}:=⟨_,by intro C a b;conv=>lhs;dsimp only [f_ladd,aU,kS,kE,bW,aG,aH,List.map,aC,List.set,List.length,aI,aN,aP,AF,aB]⟩
noncomputable def acG:{g:CF→V→V→Option (V×aE) // ∀C a b,aU C glb f_lmul.body _ [.v a,.v b] (aC false .none) (aC false)=g C a b}:=⟨_,by intro C a b;conv=>lhs;dsimp only [f_lmul,aU,kS,kE,bW,aG,aH,List.map,aC,List.set,List.length,aI,aN,aP,cL,aB]⟩
noncomputable def XD:{g:CF→V→Option (V×aE) // ∀C a,aU C glb f_ltrim.body _ [.v a,.un,.un] (aC false .none) (aC false)=g C a}:=⟨_,by intro C a;conv=>lhs;dsimp only [f_ltrim,aU,kS,kE,bW,cM,rB,aG,aH,List.map,aC,List.set,List.length,fE,fF,aW,bF,bL,aJ,aK,bO,bP,aI,aN,aP,cL,bK,hJ,aB,eN]⟩
noncomputable def acH:{g:CF→V→Option (V×aE) // ∀C a,aU C glb f_linverse.body _ [.v a,.un,.un] (aC false .none) (aC false)=g C a}:=⟨_,by intro C a;conv=>lhs;dsimp only [f_linverse,aU,kS,kE,bW,aG,aH,List.map,aC,List.set,List.length,fF,aW,aJ,aK,bO,bP,aI,aN,aP,cL,bK,hJ,aB]⟩
noncomputable def acI:{g:CF→V→V→Option (V×aE) // ∀C a b,aU C glb f_lpower.body _ [.v a,.v b,.un,.un] (aC false .none) (aC false)=g C a b}:=⟨_,by intro C a b;conv=>lhs;dsimp only [f_lpower,aU,kS,kE,bW,aG,aH,List.map,aC,List.set,List.length,fF,aW,aJ,aK,bO,bP,aI,aN,aP,cL,bK,hJ,aB,eN,iQ]⟩
noncomputable def XE:{g:CF→V→V→Option (V×aE) // ∀C a b,aU C glb f_lcut.body _ [.v a,.v b,.un,.un] (aC false .none) (aC false)=g C a b}:=⟨_,by intro C a b;conv=>lhs;dsimp only [f_lcut,aU,kS,kE,bW,cM,aG,aH,List.map,aC,List.set,List.length,fF,aW,aJ,aK,bO,bP,aI,aN,aP,cL,bK,hJ,aB,eN]⟩
noncomputable def acJ:{g:CF→V→Option (V×aE) // ∀C a,aU C glb f_from_zero.body _ [.v a,.un,.un] (aC false .none) (aC false)=g C a}:=⟨_,by intro C a;conv=>lhs;dsimp only [f_from_zero,aU,kS,kE,bW,cM,aG,aH,List.map,aC,List.set,List.length,fF,aW,aJ,aK,bO,bP,aI,aN,aP,cL,bK,hJ,AF,aB,eN]⟩
noncomputable def acK:{g:CF→V→V→Option (V×aE) // ∀C a b,aU C glb f_of_call.body _ [.v a,.v b,.un] (aC false .none) (aC false)=g C a b}:=⟨_,by intro C a b;conv=>lhs;dsimp only [f_of_call,aU,kS,kE,bW,aG,aH,List.map,aC,List.set,List.length,aJ,aK,bO,bP,aI,aN,aP,bK,aB]⟩
noncomputable def acL:{g:CF→V→V→V→V→Option (V×aE) // ∀C a b c d,aU C glb f_of_power.body _ [.v a,.v b,.v c,.v d,.un] (aC false .none) (aC false)=g C a b c d}:=⟨_,by intro C a b c d;conv=>lhs;dsimp only [f_of_power,aU,kS,kE,bW,aG,aH,List.map,aC,List.set,List.length,aJ,aK,bO,bP,aI,aN,aP,bK,aB]⟩
noncomputable def XF:{g:CF→V→V→V→Option (V×aE) // ∀C a b c,aU C glb f_of_term.body _ [.v a,.v b,.v c,.un,.un,.un] (aC false .none) (aC false)=g C a b c}:=⟨_,by intro C a b c;conv=>lhs;dsimp only [f_of_term,aU,kS,kE,bW,cM,gJ,aG,aH,List.map,aC,List.set,List.length,fE,fF,bE,aW,aJ,aK,bO,bP,aI,aN,aP,cL,bK,hJ,List.contains,List.elem,aB,eN,iQ]⟩
noncomputable def XG:{g:CF→V→V→V→Option (V×aE) // ∀C a b c,aU C glb f_laurent_of.body _ [.v a,.v b,.v c,.un,.un,.un] (aC false .none) (aC false)=g C a b c}:=⟨_,by intro C a b c;conv=>lhs;dsimp only [f_laurent_of,aU,kS,kE,bW,aG,aH,List.map,aC,List.set,List.length,fE,aJ,aK,bO,bP,aI,aN,aP,cL,bK,hJ,AF,aB,WZ]⟩
noncomputable def XH:{g:CF→V→V→V→V→Option (V×aE) // ∀C a b c d,aU C glb f_series_of.body _ [.v a,.v b,.v c,.v d,.un] (aC false .none) (aC false)=g C a b c d}:=⟨_,by intro C a b c d;conv=>lhs;dsimp only [f_series_of,aU,kS,kE,bW,aG,aH,List.map,aC,List.set,List.length,aJ,aK,bO,bP,aI,aN,aP,aB,iQ]⟩
noncomputable def QN:{g:CF→V→V→Option (V×aE) // ∀C a b,aU C glb f_from_begin.body _ [.v a,.v b,.un,.un,.un,.un] (aC false .none) (aC false)=g C a b}:=⟨_,by intro C a b;conv=>lhs;dsimp only [f_from_begin,aU,kS,kE,bW,cM,uV,aG,aH,List.map,aC,List.set,List.length,fF,aW,aJ,aK,bO,bP,aI,aN,aP,cL,bK,hJ,aB,eN,UL,JH]⟩
noncomputable def XI:{g:CF→V→V→V→V→Option (V×aE) // ∀C a b c d,aU C glb f_limit_near.body _ [.v a,.v b,.v c,.v d] (aC false .none) (aC false)=g C a b c d}:=⟨_,by intro C a b c d;conv=>lhs;dsimp only [f_limit_near,aU,kS,kE,bW,aG,aH,List.map,aC,List.set,List.length,aI,aN,aP,aB,iQ,JI]⟩
noncomputable def acM:{g:CF→V→V→Option (V×aE) // ∀C a b,aU C glb f_mirrored.body _ [.v a,.v b] (aC false .none) (aC false)=g C a b}:=⟨_,by intro C a b;conv=>lhs;dsimp only [f_mirrored,aU,kS,kE,bW,cM,gJ,aG,aH,List.map,aC,List.set,List.length,fE,fF,fX,bE,aW,bF,bL,aJ,aK,bO,bP,aI,aN,aP,qK,qM,bK,hJ,List.contains,List.elem,aB]⟩
noncomputable def acN:{g:CF→V→V→V→Option (V×aE) // ∀C a b c,aU C glb f_limit_far.body _ [.v a,.v b,.v c,.un,.un] (aC false .none) (aC false)=g C a b c}:=⟨_,by intro C a b c;conv=>lhs;dsimp only [f_limit_far,aU,kS,kE,bW,aG,aH,List.map,aC,List.set,List.length,aJ,aK,bO,bP,aI,aN,aP,aB,iQ,JI]⟩
noncomputable def QO:{g:CF→V→V→V→V→Option (V×aE) // ∀C a b c d,aU C glb f_limit.body _ [.v a,.v b,.v c,.v d] (aC false .none) (aC false)=g C a b c d}:=⟨_,by intro C a b c d;conv=>lhs;dsimp only [f_limit,aU,kS,kE,bW,uV,aG,aH,List.map,aC,List.set,List.length,aJ,aK,bO,bP,aI,aN,aP,bK,aB,UL,JH]⟩
noncomputable def XJ:{g:CF→V→V→Option (V×aE) // ∀C a b,aU C glb f_t_num.body _ [.v a,.v b,.un] (aC false .none) (aC false)=g C a b}:=⟨_,by intro C a b;conv=>lhs;dsimp only [f_t_num,aU,kS,kE,bW,aG,aH,List.map,aC,List.set,List.length,aI,aN,aP,aB]⟩
noncomputable def acO:{g:CF→V→Option (V×aE) // ∀C a,aU C glb f_t_sym.body _ [.v a] (aC false .none) (aC false)=g C a}:=⟨_,by intro C a;conv=>lhs;dsimp only [f_t_sym,aU,kS,kE,bW,aG,aH,List.map,aC,List.set,List.length,aI,aN,aP,aB]⟩
noncomputable def acP:{g:CF→V→Option (V×aE) // ∀C a,aU C glb f_t_sum.body _ [.v a] (aC false .none) (aC false)=g C a}:=⟨_,by intro C a;conv=>lhs;dsimp only [f_t_sum,aU,kS,kE,bW,aG,aH,List.map,aC,List.set,List.length,aJ,aK,bO,bP,aI,aN,aP,bK,hJ,aB,abT]⟩
noncomputable def acQ:{g:CF→V→Option (V×aE) // ∀C a,aU C glb f_t_prod.body _ [.v a] (aC false .none) (aC false)=g C a}:=⟨_,by intro C a;conv=>lhs;dsimp only [f_t_prod,aU,kS,kE,bW,aG,aH,List.map,aC,List.set,List.length,aJ,aK,bO,bP,aI,aN,aP,bK,hJ,aB,UI]⟩
noncomputable def acR:{g:CF→V→V→Option (V×aE) // ∀C a b,aU C glb f_t_pow.body _ [.v a,.v b] (aC false .none) (aC false)=g C a b}:=⟨_,by intro C a b;conv=>lhs;dsimp only [f_t_pow,aU,kS,kE,bW,aG,aH,List.map,aC,List.set,List.length,aI,aN,aP,aB]⟩
noncomputable def acS:{g:CF→V→Option (V×aE) // ∀C a,aU C glb f_t_minus.body _ [.v a] (aC false .none) (aC false)=g C a}:=⟨_,by intro C a;conv=>lhs;dsimp only [f_t_minus,aU,kS,kE,bW,aG,aH,List.map,aC,List.set,List.length,aI,aN,aP,aB,UJ]⟩
noncomputable def acT:{g:CF→V→Option (V×aE) // ∀C a,aU C glb f_is_num.body _ [.v a] (aC false .none) (aC false)=g C a}:=⟨_,by intro C a;conv=>lhs;dsimp only [f_is_num,aU,kS,kE,bW,aG,aH,List.map,aC,List.set,List.length,aI,aN,aP,bK,aB]⟩
noncomputable def acU:{g:CF→V→Option (V×aE) // ∀C a,aU C glb f_num_of.body _ [.v a] (aC false .none) (aC false)=g C a}:=⟨_,by intro C a;conv=>lhs;dsimp only [f_num_of,aU,kS,kE,bW,aG,aH,List.map,aC,List.set,List.length,aI,aN,aP,aB]⟩
noncomputable def acV:{g:CF→V→Option (V×aE) // ∀C a,aU C glb f_is_whole_num.body _ [.v a] (aC false .none) (aC false)=g C a}:=⟨_,by intro C a;conv=>lhs;dsimp only [f_is_whole_num,aU,kS,kE,bW,cM,aG,aH,List.map,aC,List.set,List.length,aJ,aK,bO,bP,aI,aN,aP,bK,aB]⟩
noncomputable def acW:{g:CF→V→V→Option (V×aE) // ∀C a b,aU C glb f_sign_between.body _ [.v a,.v b] (aC false .none) (aC false)=g C a b}:=⟨_,by intro C a b;conv=>lhs;dsimp only [f_sign_between,aU,kS,kE,bW,aG,aH,List.map,aC,List.set,List.length,aJ,aK,bO,bP,aI,aN,aP,bK,aB]⟩
noncomputable def acX:{g:CF→V→V→Option (V×aE) // ∀C a b,aU C glb f_compare_values.body _ [.v a,.v b] (aC false .none) (aC false)=g C a b}:=⟨_,by intro C a b;conv=>lhs;dsimp only [f_compare_values,aU,kS,kE,bW,aG,aH,List.map,aC,List.set,List.length,aI,aN,aP,cL,aB]⟩
noncomputable def acY:{g:CF→V→Option (V×aE) // ∀C a,aU C glb f_bare_factors.body _ [.v a] (aC false .none) (aC false)=g C a}:=⟨_,by intro C a;conv=>lhs;dsimp only [f_bare_factors,aU,kS,kE,bW,cM,gJ,aG,aH,List.map,aC,List.set,List.length,fE,fF,fX,bE,aW,bF,bL,aJ,aK,bO,bP,aI,aN,aP,qK,qM,bK,aB]⟩
noncomputable def acZ:{g:CF→V→Option (V×aE) // ∀C a,aU C glb f_front_value.body _ [.v a] (aC false .none) (aC false)=g C a}:=⟨_,by intro C a;conv=>lhs;dsimp only [f_front_value,aU,kS,kE,bW,cM,aG,aH,List.map,aC,List.set,List.length,aJ,aK,bO,bP,aI,aN,aP,bK,aB]⟩
noncomputable def ac0:{g:CF→V→Option (V×aE) // ∀C a,aU C glb f_base_and_exponent.body _ [.v a] (aC false .none) (aC false)=g C a}:=⟨_,by intro C a;conv=>lhs;dsimp only [f_base_and_exponent,aU,kS,kE,bW,aG,aH,List.map,aC,List.set,List.length,aJ,aK,bO,bP,aI,aN,aP,bK,aB,UI]⟩
noncomputable def ac1:{g:CF→V→V→Option (V×aE) // ∀C a b,aU C glb f_compare_rows.body _ [.v a,.v b,.un,.un] (aC false .none) (aC false)=g C a b}:=⟨_,by intro C a b;conv=>lhs;dsimp only [f_compare_rows,aU,kS,kE,bW,gJ,aG,aH,List.map,aC,List.set,List.length,fE,fF,bE,aW,aJ,aK,bO,bP,aI,aN,aP,bK,hJ,AF,aB]⟩
noncomputable def ac2:{g:CF→V→V→Option (V×aE) // ∀C a b,aU C glb f_compare_exponents.body _ [.v a,.v b] (aC false .none) (aC false)=g C a b}:=⟨_,by intro C a b;conv=>lhs;dsimp only [f_compare_exponents,aU,kS,kE,bW,cM,aG,aH,List.map,aC,List.set,List.length,aJ,aK,bO,bP,aI,aN,aP,bK,aB]⟩
noncomputable def ac3:{g:CF→V→V→Option (V×aE) // ∀C a b,aU C glb f_compare_bases.body _ [.v a,.v b,.un,.un] (aC false .none) (aC false)=g C a b}:=⟨_,by intro C a b;conv=>lhs;dsimp only [f_compare_bases,aU,kS,kE,bW,aG,aH,List.map,aC,List.set,List.length,aJ,aK,bO,bP,aI,aN,aP,bK,List.contains,List.elem,aB]⟩
noncomputable def ac4:{g:CF→V→V→Option (V×aE) // ∀C a b,aU C glb f_compare_factors.body _ [.v a,.v b,.un,.un,.un,.un,.un] (aC false .none) (aC false)=g C a b}:=⟨_,by intro C a b;conv=>lhs;dsimp only [f_compare_factors,aU,kS,kE,bW,aG,aH,List.map,aC,List.set,List.length,fF,aW,aJ,aK,bO,bP,aI,aN,aP,bK,aB]⟩
noncomputable def ac5:{g:CF→V→V→Option (V×aE) // ∀C a b,aU C glb f_compare_terms.body _ [.v a,.v b,.un,.un,.un,.un] (aC false .none) (aC false)=g C a b}:=⟨_,by intro C a b;conv=>lhs;dsimp only [f_compare_terms,aU,kS,kE,bW,cM,gJ,rB,aG,aH,List.map,aC,List.set,List.length,fE,fF,bE,aW,bF,bL,aJ,aK,bO,bP,aI,aN,aP,bK,hJ,AF,aB]⟩
noncomputable def ac6:{g:CF→V→V→Option (V×aE) // ∀C a b,aU C glb f_merged_terms.body _ [.v a,.v b,.un,.un,.un,.un] (aC false .none) (aC false)=g C a b}:=⟨_,by intro C a b;conv=>lhs;dsimp only [f_merged_terms,aU,kS,kE,bW,cM,uV,rB,aG,aH,List.map,aC,List.set,List.length,fE,fF,aW,bF,bL,aJ,aK,bO,bP,aI,aN,aP,qK,qM,bK,hJ,aB]⟩
noncomputable def ac7:{g:CF→V→Option (V×aE) // ∀C a,aU C glb f_sort_terms.body _ [.v a,.un] (aC false .none) (aC false)=g C a}:=⟨_,by intro C a;conv=>lhs;dsimp only [f_sort_terms,aU,kS,kE,bW,aG,aH,List.map,aC,List.set,List.length,aJ,aK,bO,bP,aI,aN,aP,cL,bK,hJ,aB]⟩
noncomputable def ac8:{g:CF→V→Option (V×aE) // ∀C a,aU C glb f_number_term.body _ [.v a] (aC false .none) (aC false)=g C a}:=⟨_,by intro C a;conv=>lhs;dsimp only [f_number_term,aU,kS,kE,bW,aG,aH,List.map,aC,List.set,List.length,aI,aN,aP,aB]⟩
noncomputable def XK:{g:CF→V→Option (V×aE) // ∀C a,aU C glb f_number_and_rest.body _ [.v a,.un] (aC false .none) (aC false)=g C a}:=⟨_,by intro C a;conv=>lhs;dsimp only [f_number_and_rest,aU,kS,kE,bW,uV,aG,aH,List.map,aC,List.set,List.length,aJ,aK,bO,bP,aI,aN,aP,bK,hJ,aB,vW]⟩
noncomputable def XL:{g:CF→V→V→Option (V×aE) // ∀C a b,aU C glb f_with_number.body _ [.v a,.v b] (aC false .none) (aC false)=g C a b}:=⟨_,by intro C a b;conv=>lhs;dsimp only [f_with_number,aU,kS,kE,bW,uV,aG,aH,List.map,aC,List.set,List.length,aJ,aK,bO,bP,aI,aN,aP,cL,bK,aB,vW]⟩
noncomputable def XM:{g:CF→V→V→Option (V×aE) // ∀C a b,aU C glb f_flat_parts.body _ [.v a,.v b,.un,.un] (aC false .none) (aC false)=g C a b}:=⟨_,by intro C a b;conv=>lhs;dsimp only [f_flat_parts,aU,kS,kE,bW,gJ,aG,aH,List.map,aC,List.set,List.length,fE,fF,bE,aW,bF,bL,aJ,aK,bO,bP,aI,aN,aP,qK,qM,bK,hJ,aB]⟩
noncomputable def XN:{g:CF→V→Option (V×aE) // ∀C a,aU C glb f_gathered_sum.body _ [.v a,.un,.un,.un,.un,.un,.un] (aC false .none) (aC false)=g C a}:=⟨_,by intro C a;conv=>lhs;dsimp only [f_gathered_sum,aU,kS,kE,bW,cM,gJ,aG,aH,List.map,aC,List.set,List.length,fE,fF,fX,bE,aW,bF,bL,aJ,aK,bO,bP,aI,aN,aP,qK,qM,cL,bK,hJ,aB,JG,vW]⟩
noncomputable def ac9:{g:CF→V→Option (V×aE) // ∀C a,aU C glb f_as_power.body _ [.v a] (aC false .none) (aC false)=g C a}:=⟨_,by intro C a;conv=>lhs;dsimp only [f_as_power,aU,kS,kE,bW,cM,aG,aH,List.map,aC,List.set,List.length,aJ,aK,bO,bP,aI,aN,aP,bK,aB,vW,UK]⟩
noncomputable def QP:{g:CF→V→Option (V×aE) // ∀C a,aU C glb f_gathered_product.body _ [.v a,.un,.un,.un,.un,.un,.un,.un,.un] (aC false .none) (aC false)=g C a}:=⟨_,by intro C a;conv=>lhs;dsimp only [f_gathered_product,aU,kS,kE,bW,cM,uV,gJ,rB,aG,aH,List.map,aC,List.set,List.length,fE,fF,bE,aW,bF,bL,aJ,aK,bO,bP,aI,aN,aP,qK,qM,cL,bK,hJ,aB,JG]⟩
noncomputable def adA:{g:CF→V→V→Option (V×aE) // ∀C a b,aU C glb f_power_of.body _ [.v a,.v b] (aC false .none) (aC false)=g C a b}:=⟨_,by intro C a b;conv=>lhs;dsimp only [f_power_of,aU,kS,kE,bW,cM,uV,gJ,aG,aH,List.map,aC,List.set,List.length,fE,fF,fX,bE,aW,bF,bL,aJ,aK,bO,bP,aI,aN,aP,qK,qM,bK,List.contains,List.elem,aB,JG,vW,UK]⟩
noncomputable def JM:{g:CF→V→Option (V×aE) // ∀C a,aU C glb f_simplify.body _ [.v a,.un,.un] (aC false .none) (aC false)=g C a}:=⟨_,by intro C a;conv=>lhs;dsimp only [f_simplify,aU,kS,kE,bW,cM,gJ,aG,aH,List.map,aC,List.set,List.length,fE,fF,fX,bE,aW,bF,bL,aJ,aK,bO,bP,aI,aN,aP,qK,qM,bK,hJ,aB]⟩
noncomputable def adB:{g:CF→V→Option (V×aE) // ∀C a,aU C glb f_limit_end.body _ [.v a] (aC false .none) (aC false)=g C a}:=⟨_,by intro C a;conv=>lhs;dsimp only [f_limit_end,aU,kS,kE,bW,uV,aG,aH,List.map,aC,List.set,List.length,aJ,aK,bO,bP,aI,aN,aP,bK,aB,UJ,JJ,JK]⟩
noncomputable def EL:{g:CF→V→V→V→V→Option (V×aE) // ∀C a b c d,aU C glb f_limit_term.body _ [.v a,.v b,.v c,.v d,.un] (aC false .none) (aC false)=g C a b c d}:=⟨_,by intro C a b c d;conv=>lhs;dsimp only [f_limit_term,aU,kS,kE,bW,aG,aH,List.map,aC,List.set,List.length,aJ,aK,bO,bP,aI,aN,aP,bK,aB,JJ,JK]⟩
noncomputable def XO:{g:CF→V→V→V→V→Option (V×aE) // ∀C a b c d,aU C glb f_taylor_term.body _ [.v a,.v b,.v c,.v d,.un,.un,.un,.un] (aC false .none) (aC false)=g C a b c d}:=⟨_,by intro C a b c d;conv=>lhs;dsimp only [f_taylor_term,aU,kS,kE,bW,uV,gJ,aG,aH,List.map,aC,List.set,List.length,fE,fF,bE,aW,bF,bL,aJ,aK,bO,bP,aI,aN,aP,qK,qM,cL,bK,aB]⟩
noncomputable def QQ:{g:CF→V→V→Option (V×aE) // ∀C a b,aU C glb f_law_ratio.body _ [.v a,.v b,.un,.un] (aC false .none) (aC false)=g C a b}:=⟨_,by intro C a b;conv=>lhs;dsimp only [f_law_ratio,aU,kS,kE,bW,rB,aG,aH,List.map,aC,List.set,List.length,fE,fF,aW,bF,bL,aJ,aK,bO,bP,aI,aN,aP,cL,bK,hJ,aB]⟩
noncomputable def XP:{g:CF→V→V→Option (V×aE) // ∀C a b,aU C glb f_law_plus.body _ [.v a,.v b] (aC false .none) (aC false)=g C a b}:=⟨_,by intro C a b;conv=>lhs;dsimp only [f_law_plus,aU,kS,kE,bW,aG,aH,List.map,aC,List.set,List.length,aI,aN,aP,cL,aB]⟩
noncomputable def XQ:{g:CF→V→V→Option (V×aE) // ∀C a b,aU C glb f_law_raised.body _ [.v a,.v b] (aC false .none) (aC false)=g C a b}:=⟨_,by intro C a b;conv=>lhs;dsimp only [f_law_raised,aU,kS,kE,bW,aG,aH,List.map,aC,List.set,List.length,aJ,aK,bO,bP,aI,aN,aP,cL,bK,aB]⟩
noncomputable def QR:{g:CF→V→Option (V×aE) // ∀C a,aU C glb f_law_term.body _ [.v a] (aC false .none) (aC false)=g C a}:=⟨_,by intro C a;conv=>lhs;dsimp only [f_law_term,aU,kS,kE,bW,cM,gJ,aG,aH,List.map,aC,List.set,List.length,fE,fF,fX,bE,aW,bF,bL,aJ,aK,bO,bP,aI,aN,aP,qK,qM,hJ,aB,JL]⟩
noncomputable def yR:{g:CF→V→V→Option (V×aE) // ∀C a b,aU C glb f_law_value.body _ [.v a,.v b,.un,.un,.un] (aC false .none) (aC false)=g C a b}:=⟨_,by intro C a b;conv=>lhs;dsimp only [f_law_value,aU,kS,kE,bW,gJ,aG,aH,List.map,aC,List.set,List.length,fE,fF,bE,aW,aJ,aK,bO,bP,aI,aN,aP,cL,bK,aB]⟩
noncomputable def adC:{g:CF→V→V→Option (V×aE) // ∀C a b,aU C glb f_law_choose.body _ [.v a,.v b,.un,.un,.un] (aC false .none) (aC false)=g C a b}:=⟨_,by intro C a b;conv=>lhs;dsimp only [f_law_choose,aU,kS,kE,bW,gJ,rB,aG,aH,List.map,aC,List.set,List.length,fE,fF,bE,aW,bF,bL,aI,aN,aP,cL,aB]⟩
theorem fO {β:Type}{n:Nat}{σ:Fm}{k:Fm→Option β}(h:σ.length=n):fE n σ k=k σ:=by
 subst h;induction σ generalizing k with
 |nil=>rfl
 |cons x l ih=>exact ih (k:=fun l=>k (x::l))
theorem bD {α β:Type}{o:Option α}{f:α→Option β}{x:α}{z:Option β}(h:o=some x)(k:f x=z):o.bind f=z:=by refine (Eq.symm h)▸?_;exact k
theorem vX {β α σ:Type}{step:V→Fm→(Fm→Option β)→Option β}{val:α→V}{enc:Nat→σ→Fm→Prop}{T:σ→α→σ}:∀{L:List α} {s:σ} {ρ:Fm},
  (∀p∈L,∀n s ρ,enc (n+1) s ρ→∃ρ',enc n (T s p) ρ'∧∀again,step (val p) ρ again=again ρ')→enc L.length s ρ→∃ρ',enc 0 (L.foldl T s) ρ'∧∀next,VW step next (L.map val) ρ=next ρ'
 |[],s,ρ,_,h=>⟨ρ,h,fun _=>rfl⟩
 |p::L,s,ρ,hs,h=>
  aD (hs p (.head _) L.length s ρ h) fun _ h1 e1=>
  aD (vX (L:=L) (fun q hq=>hs q (.tail _ hq)) h1) fun ρ2 h2 e2=>
  ⟨ρ2,h2,fun next=>(e1 _).trans (e2 next)⟩
noncomputable def cK:List S→Nat→S
 |[],_=>.bad
 |s::r,n=>match n with
  |0=>s
  |n+1=>cK r n
noncomputable def thn:S→List S
 |.ite _ a _=>a
 |_=>[]
noncomputable def nM (s:S):List S:=match s with
 |.for _ _ b=>b
 |_=>[]
section
variable {C:CF}{β:Type}{ρ ρ1 ρ2 ρ3:Fm}{x y z v:V}{a b e:E}{es r:List E}{l:List V}{κ:Fm→Option β}{q:V→Fm→Option β}
def Ev (C:CF)(β:Type)(e:E)(ρ:Fm)(v:V)(ρ':Fm):Prop:=∀k:V→Fm→Option β,kE C glb e β ρ k=k v ρ'
def UM (C:CF)(β:Type)(es:List E)(ρ:Fm)(l:List V)(ρ':Fm):Prop:=∀k:List V→Fm→Option β,bW C glb es β ρ k=k l ρ'
def Es (C:CF)(β:Type)(q:V→Fm→Option β)(s:S)(ρ ρ':Fm):Prop:=∀κ:Fm→Option β,kS C glb s β ρ κ q=κ ρ'
def mO (C:CF)(β:Type)(q:V→Fm→Option β)(s:List S)(ρ ρ':Fm):Prop:=∀κ:Fm→Option β,aU C glb s β ρ κ q=κ ρ'
theorem pN (h:Ev C β e ρ x ρ1)(g:UM C β r ρ1 l ρ2):UM C β (e::r) ρ (x::l) ρ2:=fun _=>(h _).trans (g _)
theorem dX (h:Ev C β e ρ x ρ1):UM C β [e] ρ [x] ρ1:=fun _=>h _
theorem bR (h:Ev C β a ρ x ρ1)(g:Ev C β b ρ1 y ρ2):UM C β [a,b] ρ [x,y] ρ2:=pN h (dX g)
theorem eD (g:UM C β es ρ l ρ1):Ev C β (.tup es) ρ (.tup l) ρ1:=fun _=>g _
theorem pO (g:UM C β es ρ l ρ1):Ev C β (.lst es) ρ (.lst l) ρ1:=fun _=>g _
theorem aS {f:Nat}{sl:aE}(g:UM C β es ρ l ρ1)(h:C f (l.map .v)=some (v,sl)):Ev C β (.call f es) ρ v ρ1:=fun _=>(g _).trans (bD h rfl)
theorem dM {o:BO}(h:Ev C β a ρ x ρ1)(g:Ev C β b ρ1 y ρ2)(w:∀k:V→Option β,cL o x y k=k z):Ev C β (.bin o a b) ρ z ρ2:=fun _=>(h _).trans ((g _).trans (w _))
theorem bQ {o:CO}(h:Ev C β a ρ x ρ1)(g:Ev C β b ρ1 y ρ2)(w:∀k:V→Option β,bK o x y k=k z):Ev C β (.cmp o a b) ρ z ρ2:=fun _=>(h _).trans ((g _).trans (w _))
theorem mP (h:Ev C β a ρ x ρ1)(g:Ev C β b ρ1 y ρ2)(w:∀k:V→Option β,oU x y k=k z):Ev C β (.sub a b) ρ z ρ2:=fun _=>(h _).trans ((g _).trans (w _))
theorem yS {n:Nat}(h:Ev C β a ρ x ρ1)(w:∀k:V→Option β,vD x n k=k z):Ev C β (.subN a n) ρ z ρ1:=fun _=>(h _).trans (w _)
theorem kB {o:B1}(h:Ev C β a ρ x ρ1)(w:∀k:V→Option β,hJ o x k=k z):Ev C β (.bi1 o a) ρ z ρ1:=fun _=>(h _).trans (w _)
theorem JN {s t:Bool}(p:aK [a,b]=true)(ha:Ev C V a ρ (.bool s) ρ)(hb:Ev C V b ρ (.bool t) ρ1):Ev C β (.or [a,b]) ρ (.bool (s||t)) ρ:=fun k=>by
 refine (?_:cond (aK [a,b]) ((kE C glb a V ρ fun x ρ₁=>dG x fun t=>cond t (some (.bool true)) (kE C glb b V ρ₁ fun v _=>some v)).bind fun v=>k v ρ) none=_)
 rw [p,ha]
 cases s with
 |true=>rfl
 |false=>exact bD (hb _) rfl
theorem AX {r:List E}(p:aK (a::b::r)=true)(ha:Ev C V a ρ (.bool true) ρ):Ev C β (.or (a::b::r)) ρ (.bool true) ρ:=fun k=>by
 refine (?_:cond (aK (a::b::r)) ((kE C glb a V ρ fun x ρ₁=>dG x fun t=>cond t (some (.bool true)) (uV C glb (b::r) V ρ₁ fun v _=>some v)).bind fun v=>k v ρ) none=_)
 rw [p,ha];rfl
theorem AY {s t:Bool}(p:aK [a,b]=true)(ha:Ev C V a ρ (.bool s) ρ)(hb:s=true→Ev C V b ρ (.bool t) ρ1):Ev C β (.and [a,b]) ρ (.bool (s && t)) ρ:=fun k=>by
 refine (?_:cond (aK [a,b]) ((kE C glb a V ρ fun x ρ₁=>dG x fun t=>cond t (kE C glb b V ρ₁ fun v _=>some v) (some (.bool false))).bind fun v=>k v ρ) none=_)
 rw [p,ha]
 cases s with
 |true=>exact bD (hb rfl _) rfl
 |false=>rfl
noncomputable def wS (C:CF)(β:Type)(q:V→Fm→Option β)(t:E)(b:List S)(n:Nat)(σ:Fm)(again stop:Fm→Option β):Option β:=fE n σ fun τ=>kE C glb t β τ fun v τ₁=>dG v fun c=>cond c (aU C glb b β τ₁ again q) (stop τ₁)
theorem adD {b:List S}{n m:Nat}(hl:ρ.length=n)(h:Ev C β a ρ (.bool true) ρ1)(g:mO C β q b ρ1 ρ2):sU (wS C β q a b n) κ (m+1) ρ=sU (wS C β q a b n) κ m ρ2:=(fO hl).trans ((h _).trans (g _))
theorem UN {b:List S}{n m:Nat}(hl:ρ.length=n)(h:Ev C β a ρ (.bool false) ρ1):sU (wS C β q a b n) κ (m+1) ρ=κ ρ1:=(fO hl).trans (h _)
theorem XR {b:List S}{n:Nat}(hl:ρ.length=n)(h:∀κ,sU (wS C β q a b n) κ 100 ρ=κ ρ2)(hr:ρ2.length=n):Es C β q (.whl a b) ρ ρ2:=fun κ=>by
 subst hl;exact (h _).trans (fO hr)
theorem bU {n:Nat}(h:Ev C β e ρ v ρ1)(g:ρ1.set n (.v v)=ρ2):Es C β q (.asg n e) ρ ρ2:=fun κ=>(h _).trans (congrArg κ g)
theorem JO {n:Nat}{xs:List V}(h:Ev C β e ρ v ρ1)(p:aJ e=true)(g:ρ.at n=.l xs)(w:xs.length≤1000)(u:ρ.set n (.l (List.append xs [v]))=ρ2):Es C β q (.app n e) ρ ρ2:=fun κ=>by
 refine (?_:cond (aJ e) (kE C glb e β ρ fun v _=>match ρ.at n with
  |.l xs=>cond (Nat.ble xs.length 1000) (κ (ρ.set n (.l (List.append xs [v])))) none
  |_=>none) none=_)
 rw [p,h,g]
 exact (congrArg (cond · _ none) (Nat.ble_eq_true_of_le w)).trans (congrArg κ u)
theorem mQ {t:E}{A B:List S}(h:Ev C β t ρ (.bool false) ρ1)(g:mO C β q B ρ1 ρ2):Es C β q (.ite t A B) ρ ρ2:=fun _=>(h _).trans (g _)
theorem cR {r:List S}(h:Ev C β e ρ v ρ1):aU C glb (.ret e::r) β ρ κ q=q v ρ1:=h _
theorem yT {t:E}{A B r:List S}{w:Option β}(h:Ev C β t ρ (.bool true) ρ1)(g:∀κ:Fm→Option β,aU C glb A β ρ1 κ q=w):aU C glb (.ite t A B::r) β ρ κ q=w:=(h _).trans (g _)
theorem eE {s:S}{r:List S}{w:Option β}(h:Es C β q s ρ ρ1)(g:aU C glb r β ρ1 κ q=w):aU C glb (s::r) β ρ κ q=w:=(h _).trans g
theorem iD:mO C β q [] ρ ρ:=fun _=>rfl
theorem dJ {s:S}{r:List S}(h:Es C β q s ρ ρ1)(g:mO C β q r ρ1 ρ2):mO C β q (s::r) ρ ρ2:=fun _=>(h _).trans (g _)
theorem vY {s:S}(h:Es C β q s ρ ρ1):mO C β q [s] ρ ρ1:=fun _=>h _
theorem iE {s t:S}(h:Es C β q s ρ ρ1)(g:Es C β q t ρ1 ρ2):mO C β q [s,t] ρ ρ2:=dJ h (vY g)
theorem nZ:∀{a b:List S} {β:Type} {ρ:Fm} {k:Fm→Option β} {q:V→Fm→Option β},aU C glb (a++b) β ρ k q=aU C glb a β ρ (fun ρ=>aU C glb b β ρ k q) q
 |[],_,_,_,_,_=>rfl
 |s::a,b,β,ρ,k,q=>congrArg (fun g=>kS C glb s β ρ g q) (funext fun _=>nZ)
theorem lT {a b:List S}(h:mO C β q a ρ ρ1):aU C glb (a++b) β ρ κ q=aU C glb b β ρ1 κ q:=nZ.trans (h _)
theorem XS (h:Ev C β a ρ (.lst l) ρ1)(K:List V→Fm→Option β):gJ C glb (.enm a) β ρ K=K (iO 0 l) ρ1:=h _
theorem yU (h:Ev C β a ρ v ρ1)(w:itV v=some l)(K:List V→Fm→Option β):gJ C glb (.val a) β ρ K=K l ρ1:=(h _).trans (bD w rfl)
theorem gZ {α σ:Type}{xs:List Nat}{sr:Sr}{b:List S}{val:α→V}{L:List α}{s:σ}(enc:Nat→σ→Fm→Prop)(T:σ→α→σ)(n:Nat)(hn:ρ.length=n)(hr:∀K:List V→Fm→Option β,gJ C glb sr β ρ K=K (L.map val) ρ1)(hl:∀n' s τ,enc n' s τ→τ.length=n)
  (h0:enc L.length s ρ1) (hs:∀p∈L,∀n s τ,enc (n+1) s τ→∃τ1 τ2,(∀K:Fm→Option β,bE xs (val p) τ K=K τ1)∧enc n (T s p) τ2∧mO C β q b τ1 τ2):∃τ,enc 0 (L.foldl T s) τ∧Es C β q (.for xs sr b) ρ τ:=
 let ⟨τ,h1,h2⟩:=vX (step:=fun x σ again=>fE ρ.length σ fun τ=>bE xs x τ fun τ₁=>aU C glb b β τ₁ again q) (fun p hp n' s τ he=>
  bN (hs p hp n' s τ he) fun _ τ2 h0 h1 h2=>
  ⟨τ2,h1,fun again=>(fO ((hl _ _ _ he).trans hn.symm)).trans ((h0 _).trans (h2 again))⟩) h0
 ⟨τ,h1,fun _=>(hr _).trans ((h2 _).trans (fO ((hl _ _ _ h1).trans hn.symm)))⟩
end
theorem lU {c n:Nat}(h:c+1≤n):n - (c+1)+1≤n - c:=Nat.le_of_eq (Nat.sub_add_cancel (Nat.sub_pos_of_lt h))
theorem eP {a b n:Nat}(h:a≤n):a - b≤n:=Nat.le_trans (Nat.sub_le a b) h
theorem XT {k t n:Nat}(h:k≤t∧t<k+(n - k)):t<n:=by
 have p:k≤n:=Nat.le_of_lt (Nat.lt_of_sub_pos (Nat.pos_of_lt_add_right (Nat.lt_of_le_of_lt h.1 h.2)))
 exact Nat.lt_of_lt_of_eq h.2 (Nat.add_sub_of_le p)
theorem cS {m n:Nat}(h:m≤n):Nat.ble m n=true:=Nat.ble_eq_true_of_le h
theorem JP {C:CF}{β:Type}{q:V→Fm→Option β}{e:E}{ρ ρ1 ρ2:Fm}{n:Nat}{xs ys:List V}(h:Ev C β e ρ (.lst ys) ρ1)(p:aJ e=true)(g:ρ.at n=.l xs)(w:xs.length+ys.length≤1000)(u:ρ.set n (.l (List.append xs ys))=ρ2):Es C β q (.ext n e) ρ ρ2:=fun κ=>by
 refine (?_:cond (aJ e) (kE C glb e β ρ fun v _=>match ρ.at n with
  |.l xs=>match v with
   |.lst ys=>cond (Nat.ble (Nat.add xs.length ys.length) 1000) (κ (ρ.set n (.l (List.append xs ys)))) none
   |_=>none
  |_=>none) none=_)
 rw [p,h,g]
 exact (congrArg (cond · _ none) (Nat.ble_eq_true_of_le w)).trans (congrArg κ u)
theorem gB {C:CF}{β:Type}{a b c:E}{ρ ρ1 ρ2:Fm}{t:Bool}{u:V}(p:(aJ c && aJ a && aJ b)=true)(hc:Ev C β c ρ (.bool t) ρ1)(hb:Ev C V (cond t a b) ρ u ρ2):Ev C β (.ite c a b) ρ u ρ:=fun k=>by
 refine (?_:cond (aJ c && aJ a && aJ b) (kE C glb c β ρ fun x _=>dG x fun c=>(cond c (kE C glb a V ρ fun v _=>some v) (kE C glb b V ρ fun v _=>some v)).bind fun v=>k v ρ) none=_)
 rw [p,hc]
 cases t with
 |true=>exact bD (hb _) rfl
 |false=>exact bD (hb _) rfl
theorem lV {β:Type}(n:Nat)(k:Nat→β):vC n k=k n:=by cases n<;>rfl
theorem AZ {y:Nat}(h:y≠0):iW (.ofNat y) 0=false:=(eB _ _).trans (decide_eq_false fun e=>h (Int.ofNat.inj e))
theorem BA {β:Type}{i j:Int}{q:V→Option β}:GE (.int i) (.int j) q=q (.int (Int.add i j)):=eA (Int.add i j) fun z=>q (.int z)
theorem oA {β:Type}{i j:Int}{q:V→Option β}:GF (.int i) (.int j) q=q (.int (Int.sub i j)):=eA (Int.sub i j) fun z=>q (.int z)
theorem JQ {x:Int}(h:x.natAbs<2^40):Nat.blt x.natAbs 18446744073709551616=true:=Nat.blt_eq.mpr (Nat.lt_of_lt_of_le h (by decide))
theorem QS {β:Type}{i j:Int}{k:V→Option β}(h:i.natAbs<2^40):GG (.int i) (.int j) k=k (.int (Int.mul i j)):=(congrArg (cond · _ none) (JQ h)).trans (eA (Int.mul i j) fun z=>k (.int z))
theorem JR {β:Type}{i j:Int}{k:V→Option β}(h:iW j 0=false)(g:j.natAbs<2^40):AE (.int i) (.int j) k=k (.int (Int.fdiv i j)):=by
 refine (?_:cond (iW j 0) none (cond (Nat.blt j.natAbs 18446744073709551616) (lE (Int.fdiv i j) fun z=>k (.int z)) none)=_)
 exact (congrArg (cond · none _) h).trans ((congrArg (cond · _ none) (JQ g)).trans (eA (Int.fdiv i j) fun z=>k (.int z)))
section
variable {C:CF}{β:Type}{a b:E}{ρ ρ1 ρ2:Fm}{i j z:Int}
theorem dI (h:Ev C β a ρ (.int i) ρ1)(g:Ev C β b ρ1 (.int j) ρ2)(w:Int.add i j=z):Ev C β (.bin .add a b) ρ (.int z) ρ2:=w▸dM h g fun _=>BA
theorem kR (h:Ev C β a ρ (.int i) ρ1)(g:Ev C β b ρ1 (.int j) ρ2):Ev C β (.bin .sub a b) ρ (.int (Int.sub i j)) ρ2:=dM h g fun _=>oA
theorem dN (h:Ev C β a ρ (.int i) ρ1)(g:Ev C β b ρ1 (.int j) ρ2)(w:i.natAbs<2^40):Ev C β (.bin .mul a b) ρ (.int (Int.mul i j)) ρ2:=dM h g fun _=>QS w
theorem BB (h:Ev C β a ρ (.int i) ρ1)(g:Ev C β b ρ1 (.int j) ρ2)(e:iW j 0=false)(w:j.natAbs<2^40):Ev C β (.bin .fdiv a b) ρ (.int (Int.fdiv i j)) ρ2:=dM h g fun _=>JR e w
end
theorem JS {β:Type}{i j:Int}{t:Bool}(h:iW i j=t)(K:V→Option β):bK .eq (.int i) (.int j) K=K (.bool t):=congrArg (fun t=>K (.bool t)) h
theorem JT {β:Type}{i j:Int}{t:Bool}(h:iW i j=t)(K:V→Option β):bK .ne (.int i) (.int j) K=K (.bool (not t)):=congrArg (fun t=>K (.bool (not t))) h
theorem vZ {fr:Nat→Nat→Fm}{n1:Fm→Option (V×aE)}{step:Fm→(Fm→Option (V×aE))→(Fm→Option (V×aE))→Option (V×aE)}
  (h0:∀(x:Nat) again stop,step (fr x 0) again stop=stop (fr x 0))
  (h1:∀(x y:Nat) again stop,y≠0→step (fr x y) again stop=again (fr y (x % y))):
  ∀(k n x y:Nat),y<2^k→2*k+1≤n→sU step n1 n (fr x y)=n1 (fr (Nat.gcd x y) 0):=by
 have e:∀n x,sU step n1 (n+1) (fr x 0)=n1 (fr (Nat.gcd x 0) 0):=by
  intro n x
  rw [Nat.gcd_zero_right]
  exact h0 x _ _
 intro k
 induction k with
 |zero=>
  intro n x y hy hn
  obtain ⟨n,rfl⟩:∃m,n=m+1:=⟨n - 1,(Nat.sub_add_cancel hn).symm⟩
  obtain rfl:y=0:=by lia
  exact e n x
 |succ k ih=>
  intro n x y hy hn
  obtain ⟨n,rfl⟩:∃m,n=m+3:=⟨n - 3,(Nat.sub_add_cancel (Nat.le_trans (Nat.le_add_left 3 (2*k)) hn)).symm⟩
  by_cases h:y=0
  ·subst h;exact e (n+2) x
  ·refine (h1 x y _ _ h).trans ?_
   have g1:Nat.gcd x y=Nat.gcd y (x % y):=by rw [Nat.gcd_comm x y,Nat.gcd_rec y x,Nat.gcd_comm]
   rw [g1]
   by_cases h':x % y=0
   ·rw [h'];exact e (n+1) y
   ·refine (h1 y (x % y) _ _ h').trans ?_
    have g2:Nat.gcd y (x % y)=Nat.gcd (x % y) (y % (x % y)):=by rw [Nat.gcd_comm y,Nat.gcd_rec (x % y) y,Nat.gcd_comm]
    rw [g2]
    refine ih (n+1) (x % y) (y % (x % y)) ?_ (by lia)
    have a1:x % y<y:=Nat.mod_lt _ (by lia)
    have a2:y % (x % y)<x % y:=Nat.mod_lt _ (by lia)
    have a3:y=(x % y)*(y / (x % y))+y % (x % y):=(Nat.div_add_mod y (x % y)).symm
    have a4:1≤y / (x % y):=Nat.div_pos (Nat.le_of_lt a1) (by lia)
    have a5:(x % y)*1≤(x % y)*(y / (x % y)):=Nat.mul_le_mul_left _ a4
    rw [Nat.pow_succ] at hy
    lia
theorem QT {C:CF}{i j:Int}(hj:j.natAbs<2^40):sg0.1 C (.int i) (.int j)=some (.int (.ofNat (Nat.gcd i.natAbs j.natAbs)),.un):=by
 unfold sg0
 dsimp only
 rw [show Nat.beq (0+1+1) (0+1+1)=true from rfl,aI]
 refine (vZ (fr:=fun x y=>[.v (.int (.ofNat x)),.v (.int (.ofNat y))]) ?_ ?_ 40 100 i.natAbs j.natAbs hj (by decide)).trans rfl
 ·intro x again stop;rfl
 ·intro x y again stop h
  cases y with
  |zero=>exact absurd rfl h
  |succ y=>
   refine (?_:(lE (Int.fmod (.ofNat x) (.ofNat (y+1))) fun z=>again [.v (.int (.ofNat (y+1))),.v (.int z)])=_)
   rw [eA]
   cases x with
   |zero=>rw [Nat.zero_mod];rfl
   |succ x=>rfl
noncomputable def JU:CF:=fun f l=>cond (Nat.beq f 0) (hU (fun _ _=>none) glb f_gcd l) none
theorem XU {i j:Int}(hj:j.natAbs<2^40):JU 0 [.v (.int i),.v (.int j)]=some (.int (.ofNat (Nat.gcd i.natAbs j.natAbs)),.un):=(sg0.2 _ _ _).trans (QT hj)
theorem XV {C:CF}{i j g gg:Int}{t:Bool}(h0:iW j 0=false)(hc:C 0 [.v (.int i),.v (.int j)]=some (.int gg,.un))(ht:lD 0 j=t)(hg:cond t gg (Int.sub 0 gg)=g)(g0:iW g 0=false)(gb:g.natAbs<2^40):
  hU C glb f_rat [.v (.int i),.v (.int j)]=some (.tup [.int (Int.fdiv i g),.int (Int.fdiv j g)],.un):=
 have c0:∀{β:Type},Ev C β (.call 0 [.var 0,.var 1]) [.v (.int i),.v (.int j),.un] (.int gg) [.v (.int i),.v (.int j),.un]:=fun {β}=>aS (bR (fun _=>rfl) fun _=>rfl) hc
 have e:Ev C V (cond t (.call 0 [.var 0,.var 1]) (.bin .sub (.int 0) (.call 0 [.var 0,.var 1]))) [.v (.int i),.v (.int j),.un] (.int g) [.v (.int i),.v (.int j),.un]:=by
  subst hg;cases t
  ·exact kR (fun _=>rfl) c0
  ·exact c0
 eE (mQ (bQ (x:=.int j) (y:=.int 0) (fun _=>rfl) (fun _=>rfl) fun K=>congrArg (fun t=>K (.bool t)) h0) iD)<|
 eE (bU (ρ2:=[.v (.int i),.v (.int j),.v (.int g)]) (gB (t:=t) rfl (bQ (x:=.int j) (y:=.int 0) (fun _=>rfl) (fun _=>rfl) fun K=>congrArg (fun t=>K (.bool t)) ht) e) rfl)<|
 cR (r:=[]) (ρ1:=[.v (.int i),.v (.int j),.v (.int g)]) (κ:=fun _=>none) (q:=aC false) (eD (bR (BB (fun _=>rfl) (fun _=>rfl) g0 gb) (BB (fun _=>rfl) (fun _=>rfl) g0 gb)))
noncomputable def yV (i:Int)(g:Nat)(k:Int→Option (V×aE)):Option (V×aE):=match i with
 |.ofNat n=>vC (Nat.div n g) fun z=>k (.ofNat z)
 |.negSucc n=>vC (Nat.div (Nat.succ n) g) fun z=>k (Int.negOfNat z)
noncomputable def QU (a b:V):Option (V×aE):=match a with
 |.int i=>match b with
  |.int j=>cond (lD 0 j) (cond (Nat.blt j.natAbs 1099511627776) (vC (Nat.gcd i.natAbs j.natAbs) fun g=>yV i g fun x=>yV j g fun y=>some (.tup [.int x,.int y],.un)) none)
   (cond (lD j 0) (cond (Nat.blt j.natAbs 1099511627776) (vC (Nat.gcd i.natAbs j.natAbs) fun g=>some (.tup [.int (Int.fdiv i (Int.sub 0 (.ofNat g))),.int (Int.fdiv j (Int.sub 0 (.ofNat g)))],.un)) none) none)
  |_=>none
 |_=>none
theorem oB {i:Int}{g:Nat}{k:Int→Option (V×aE)}(h:(g:Int)∣i):yV i g k=k (Int.fdiv i (.ofNat g)):=by
 cases i with
 |ofNat n=>
  rw [yV,lV]
  congr 1
  cases n with
  |zero=>show Int.ofNat (0 / g)=0;rw [Nat.zero_div];rfl
  |succ n=>rfl
 |negSucc n=>
  rw [yV,lV]
  congr 1
  show Int.negOfNat (Nat.div (n+1) g)=_
  cases g with
  |zero=>exact absurd (Int.zero_dvd.mp h) (by simp)
  |succ g=>
   obtain ⟨c,hc⟩:=h
   have h1:n+1=(g+1)*c.natAbs:=by
    have:=congrArg Int.natAbs hc
    rw [Int.natAbs_mul] at this
    rw [Int.natAbs_negSucc,Int.natAbs_natCast] at this
    exact this
   have h2:c= -(c.natAbs:Int):=by
    have:c<0:=by
     rcases Int.lt_or_le c 0 with h|h
     ·exact h
     ·exfalso
      have h3:0≤((g+1:Nat):Int)*c:=Int.mul_nonneg (Int.natCast_nonneg _) h
      rw [←hc] at h3
      exact absurd h3 (by simp)
    omega
   have h3:Nat.div (n+1) (g+1)=c.natAbs:=by
    rw [h1];exact Nat.mul_div_cancel_left _ (Nat.succ_pos g)
   rw [h3,hc,Int.ofNat_eq_natCast,Int.mul_fdiv_cancel_left _ (by omega),Int.negOfNat_eq]
   exact h2.symm
theorem JV {i j:Int}{t:Bool}(hj:j.natAbs<2^40)(h0:j≠0)(ht:lD 0 j=t):
  hU JU glb f_rat [.v (.int i),.v (.int j)]=some (.tup [.int (Int.fdiv i (cond t (.ofNat (Nat.gcd i.natAbs j.natAbs)) (Int.sub 0 (.ofNat (Nat.gcd i.natAbs j.natAbs))))),.int (Int.fdiv j (cond t (.ofNat (Nat.gcd i.natAbs j.natAbs)) (Int.sub 0 (.ofNat (Nat.gcd i.natAbs j.natAbs)))))],.un):=by
 have a:Nat.gcd i.natAbs j.natAbs<2^40:=Nat.lt_of_le_of_lt (Nat.gcd_le_right _ (Int.natAbs_pos.mpr h0)) hj
 have b:Nat.gcd i.natAbs j.natAbs≠0:=fun h=>h0 (Int.natAbs_eq_zero.mp (Nat.gcd_eq_zero_iff.mp h).2)
 refine XV ((eB _ _).trans (decide_eq_false h0)) (XU hj) ht rfl ?_ ?_
 ·cases t with
  |true=>exact AZ b
  |false=>exact (eB _ _).trans (decide_eq_false fun e=>b (Int.ofNat.inj (Int.neg_eq_zero.mp ((Int.zero_sub _).symm.trans e))))
 ·cases t with
  |true=>exact a
  |false=>exact (show ((0:Int) - (Nat.gcd i.natAbs j.natAbs:Int)).natAbs<2^40 by rw [Int.zero_sub,Int.natAbs_neg,Int.natAbs_natCast];exact a)
theorem QV {a b:V}{z:V×aE}(h:QU a b=some z):hU JU glb f_rat [.v a,.v b]=some z:=by
 cases a<;>first|cases h|skip
 cases b<;>first|cases h|skip
 rename_i i j
 cases h1:lD 0 j with
 |true=>
  have h:cond (lD 0 j) _ _=some z:=h
  rw [h1] at h
  refine aF (aA (show cond (Nat.blt j.natAbs 1099511627776) _ none=some z from h)) fun h2 h=>?_
  rw [lV,oB (Int.ofNat_dvd_left.mpr (Nat.gcd_dvd_left _ _)),oB (Int.ofNat_dvd_left.mpr (Nat.gcd_dvd_right _ _))] at h
  exact (JV (Nat.blt_eq.mp h2) (Int.ne_of_gt (of_decide_eq_true ((gX _ _).symm.trans h1))) h1).trans h
 |false=>
  have h:cond (lD 0 j) _ _=some z:=h
  rw [h1] at h
  refine aF (aA (show cond (lD j 0) _ none=some z from h)) fun h3 h=>?_
  refine aF (aA h) fun h2 h=>?_
  rw [lV] at h
  exact (JV (Nat.blt_eq.mp h2) (Int.ne_of_lt (of_decide_eq_true ((gX _ _).symm.trans h3))) h1).trans h
noncomputable def rT (g:V→Option (V×aE))(l:List aE):Option (V×aE):=match l with
 |[]=>none
 |s::r=>match s with
  |.v a=>match r with
   |[]=>g a
   |_=>none
  |_=>none
noncomputable def nE (g:V→List aE→Option (V×aE))(l:List aE):Option (V×aE):=match l with
 |[]=>none
 |s::r=>match s with
  |.v a=>g a r
  |_=>none
noncomputable def UO (g:List (V×V)→List aE→Option (V×aE))(l:List aE):Option (V×aE):=match l with
 |[]=>none
 |s::r=>match s with
  |.d a=>g a r
  |_=>none
theorem dH {g:V→List aE→Option (V×aE)}{l:List aE}{z:V×aE}(h:nE g l=some z):∃a t,l=.v a::t∧g a t=some z:=by
 cases l with
 |nil=>exact no h
 |cons s r=>cases s with
  |v a=>exact (bM a r ⟨rfl,h⟩)
  |_=>exact no h
theorem eQ {g:V→Option (V×aE)}{l:List aE}{z:V×aE}(h:rT g l=some z):∃a,l=[.v a]∧g a=some z:=by
 cases l with
 |nil=>exact no h
 |cons s r=>cases s with
  |v a=>cases r with
   |nil=>exact ⟨a,rfl,h⟩
   |cons _ _=>exact no h
  |_=>exact no h
theorem yW {g:List (V×V)→List aE→Option (V×aE)}{l:List aE}{z:V×aE}(h:UO g l=some z):∃a t,l=.d a::t∧g a t=some z:=by
 cases l with
 |nil=>exact no h
 |cons s r=>cases s with
  |d a=>exact (bM a r ⟨rfl,h⟩)
  |_=>exact no h
section
variable {C:CF}{fn:Fn}{l:List aE}{r:V×aE}
noncomputable def kT (g:V→Option (V×aE))(l:List aE):Option (V×aE):=rT g l
noncomputable def fQ (g:V→V→Option (V×aE))(l:List aE):Option (V×aE):=nE (fun a=>rT fun b=>g a b) l
noncomputable def lf3 (g:V→V→V→Option (V×aE))(l:List aE):Option (V×aE):=nE (fun a=>nE fun b=>rT fun c=>g a b c) l
noncomputable def XW (g:V→V→V→V→Option (V×aE))(l:List aE):Option (V×aE):=nE (fun a=>nE fun b=>nE fun c=>rT fun d=>g a b c d) l
noncomputable def lfD (g:List (V×V)→V→V→Option (V×aE))(l:List aE):Option (V×aE):=UO (fun a=>nE fun b=>rT fun c=>g a b c) l
theorem bS {g:V→Option (V×aE)}(e:∀a,hU C glb fn [.v a]=g a)(h:kT g l=some r):hU C glb fn l=some r:=by
 refine aD (eQ h) fun a aiB h=>?_;subst aiB
 exact (e a).trans h
theorem aZ {g:V→V→Option (V×aE)}(e:∀a b,hU C glb fn [.v a,.v b]=g a b)(h:fQ g l=some r):hU C glb fn l=some r:=by
 refine cF (dH h) fun a t0 aiC h1=>?_;subst aiC
 refine aD (eQ h1) fun b aiD h2=>?_;subst aiD
 exact (e a b).trans h2
theorem tP {g:V→V→V→Option (V×aE)}(e:∀a b c,hU C glb fn [.v a,.v b,.v c]=g a b c)(h:lf3 g l=some r):hU C glb fn l=some r:=by
 refine cF (dH h) fun a t0 aiE h1=>?_;subst aiE
 refine cF (dH h1) fun b t1 aiF h2=>?_;subst aiF
 refine aD (eQ h2) fun c aiG h3=>?_;subst aiG
 exact (e a b c).trans h3
theorem mR {g:V→V→V→V→Option (V×aE)}(e:∀a b c d,hU C glb fn [.v a,.v b,.v c,.v d]=g a b c d)(h:XW g l=some r):hU C glb fn l=some r:=by
 refine cF (dH h) fun a t0 aiH h1=>?_;subst aiH
 refine cF (dH h1) fun b t1 aiI h2=>?_;subst aiI
 refine cF (dH h2) fun c t2 aiJ h3=>?_;subst aiJ
 refine aD (eQ h3) fun d aiK h4=>?_;subst aiK
 exact (e a b c d).trans h4
theorem XX {g:List (V×V)→V→V→Option (V×aE)}(e:∀a b c,hU C glb fn [.d a,.v b,.v c]=g a b c)(h:lfD g l=some r):hU C glb fn l=some r:=by
 refine cF (yW h) fun a t0 aiL h1=>?_;subst aiL
 refine cF (dH h1) fun b t1 aiM h2=>?_;subst aiM
 refine aD (eQ h2) fun c aiN h3=>?_;subst aiN
 exact (e a b c).trans h3
end
noncomputable def adF (C:CF)(f:Nat)(l:List aE):Option (V×aE):=cond (Nat.beq f 2) (fQ (sg2.1 C) l) (cond (Nat.beq f 4) (fQ (sg4.1 C) l) (cond (Nat.beq f 56) (kT (acT.1 C) l) (cond (Nat.beq f 23) (lf3 (ab7.1 C) l) (cond (Nat.beq f 1) (fQ QU l) (cond (Nat.beq f 59) (fQ (acW.1 C) l) (cond (Nat.beq f 71) (kT (ac8.1 C) l) (cond (Nat.beq f 79) (kT (JM.1 C) l) (cond (Nat.beq f 57) (kT (acU.1 C) l) (cond (Nat.beq f 72) (kT (XK.1 C) l) (cond (Nat.blt f 44) (cond (Nat.blt f 24) (cond (Nat.blt f 13) (cond (Nat.blt f 8) (cond (Nat.blt f 5) (cond (Nat.blt f 3) (cond (Nat.beq f 0) (fQ (sg0.1 C) l) none) (cond (Nat.beq f 3) (fQ (sg3.1 C) l) none)) (cond (Nat.blt f 6) (cond (Nat.beq f 5) (fQ (sg5.1 C) l) none) (cond (Nat.blt f 7) (cond (Nat.beq f 6) (kT (sg6.1 C) l) none) (cond (Nat.beq f 7) (kT (sg7.1 C) l) none)))) (cond (Nat.blt f 10) (cond (Nat.blt f 9) (cond (Nat.beq f 8) (fQ (sg8.1 C) l) none) (cond (Nat.beq f 9) (fQ (sg9.1 C) l) none)) (cond (Nat.blt f 11) (cond (Nat.beq f 10) (lfD (abV.1 C) l) none) (cond (Nat.blt f 12) (cond (Nat.beq f 11) (fQ (abW.1 C) l) none) (cond (Nat.beq f 12) (fQ (abX.1 C) l) none))))) (cond (Nat.blt f 18) (cond (Nat.blt f 15) (cond (Nat.blt f 14) (cond (Nat.beq f 13) (fQ (abY.1 C) l) none) (cond (Nat.beq f 14) (fQ (abZ.1 C) l) none)) (cond (Nat.blt f 16) (cond (Nat.beq f 15) (fQ (ab0.1 C) l) none) (cond (Nat.blt f 17) (cond (Nat.beq f 16) (kT (ab1.1 C) l) none) (cond (Nat.beq f 17) (fQ (ab2.1 C) l) none)))) (cond (Nat.blt f 20) (cond (Nat.blt f 19) (cond (Nat.beq f 18) (fQ (ab3.1 C) l) none) (cond (Nat.beq f 19) (fQ (ab4.1 C) l) none)) (cond (Nat.blt f 21) (cond (Nat.beq f 20) (kT (ab5.1 C) l) none) (cond (Nat.blt f 22) (cond (Nat.beq f 21) (fQ (ab6.1 C) l) none) (cond (Nat.beq f 22) (fQ (XA.1 C) l) none)))))) (cond (Nat.blt f 34) (cond (Nat.blt f 29) (cond (Nat.blt f 26) (cond (Nat.blt f 25) (cond (Nat.beq f 24) (fQ (ab8.1 C) l) none) (cond (Nat.beq f 25) (kT (ab9.1 C) l) none)) (cond (Nat.blt f 27) (cond (Nat.beq f 26) (fQ (acA.1 C) l) none) (cond (Nat.blt f 28) (cond (Nat.beq f 27) (kT (acB.1 C) l) none) (cond (Nat.beq f 28) (kT (acC.1 C) l) none)))) (cond (Nat.blt f 31) (cond (Nat.blt f 30) (cond (Nat.beq f 29) (kT (acD.1 C) l) none) (cond (Nat.beq f 30) (fQ (acE.1 C) l) none)) (cond (Nat.blt f 32) (cond (Nat.beq f 31) (fQ (acF.1 C) l) none) (cond (Nat.blt f 33) (cond (Nat.beq f 32) (fQ (XB.1 C) l) none) (cond (Nat.beq f 33) (fQ (XC.1 C) l) none))))) (cond (Nat.blt f 39) (cond (Nat.blt f 36) (cond (Nat.blt f 35) (cond (Nat.beq f 34) (fQ (acG.1 C) l) none) (cond (Nat.beq f 35) (kT (XD.1 C) l) none)) (cond (Nat.blt f 37) (cond (Nat.beq f 36) (kT (acH.1 C) l) none) (cond (Nat.blt f 38) (cond (Nat.beq f 37) (fQ (acI.1 C) l) none) (cond (Nat.beq f 38) (fQ (XE.1 C) l) none)))) (cond (Nat.blt f 41) (cond (Nat.blt f 40) (cond (Nat.beq f 39) (kT (acJ.1 C) l) none) (cond (Nat.beq f 40) (fQ (acK.1 C) l) none)) (cond (Nat.blt f 42) (cond (Nat.beq f 41) (XW (acL.1 C) l) none) (cond (Nat.blt f 43) (cond (Nat.beq f 42) (lf3 (XF.1 C) l) none) (cond (Nat.beq f 43) (lf3 (XG.1 C) l) none))))))) (cond (Nat.blt f 67) (cond (Nat.blt f 54) (cond (Nat.blt f 49) (cond (Nat.blt f 46) (cond (Nat.blt f 45) (cond (Nat.beq f 44) (XW (XH.1 C) l) none) (cond (Nat.beq f 45) (fQ (QN.1 C) l) none)) (cond (Nat.blt f 47) (cond (Nat.beq f 46) (XW (XI.1 C) l) none) (cond (Nat.blt f 48) (cond (Nat.beq f 47) (fQ (acM.1 C) l) none) (cond (Nat.beq f 48) (lf3 (acN.1 C) l) none)))) (cond (Nat.blt f 51) (cond (Nat.blt f 50) (cond (Nat.beq f 49) (XW (QO.1 C) l) none) (cond (Nat.beq f 50) (fQ (XJ.1 C) l) none)) (cond (Nat.blt f 52) (cond (Nat.beq f 51) (kT (acO.1 C) l) none) (cond (Nat.blt f 53) (cond (Nat.beq f 52) (kT (acP.1 C) l) none) (cond (Nat.beq f 53) (kT (acQ.1 C) l) none))))) (cond (Nat.blt f 62) (cond (Nat.blt f 58) (cond (Nat.blt f 55) (cond (Nat.beq f 54) (fQ (acR.1 C) l) none) (cond (Nat.beq f 55) (kT (acS.1 C) l) none)) (cond (Nat.blt f 60) (cond (Nat.beq f 58) (kT (acV.1 C) l) none) (cond (Nat.blt f 61) (cond (Nat.beq f 60) (fQ (acX.1 C) l) none) (cond (Nat.beq f 61) (kT (acY.1 C) l) none)))) (cond (Nat.blt f 64) (cond (Nat.blt f 63) (cond (Nat.beq f 62) (kT (acZ.1 C) l) none) (cond (Nat.beq f 63) (kT (ac0.1 C) l) none)) (cond (Nat.blt f 65) (cond (Nat.beq f 64) (fQ (ac1.1 C) l) none) (cond (Nat.blt f 66) (cond (Nat.beq f 65) (fQ (ac2.1 C) l) none) (cond (Nat.beq f 66) (fQ (ac3.1 C) l) none)))))) (cond (Nat.blt f 80) (cond (Nat.blt f 74) (cond (Nat.blt f 69) (cond (Nat.blt f 68) (cond (Nat.beq f 67) (fQ (ac4.1 C) l) none) (cond (Nat.beq f 68) (fQ (ac5.1 C) l) none)) (cond (Nat.blt f 70) (cond (Nat.beq f 69) (fQ (ac6.1 C) l) none) (cond (Nat.blt f 73) (cond (Nat.beq f 70) (kT (ac7.1 C) l) none) (cond (Nat.beq f 73) (fQ (XL.1 C) l) none)))) (cond (Nat.blt f 76) (cond (Nat.blt f 75) (cond (Nat.beq f 74) (fQ (XM.1 C) l) none) (cond (Nat.beq f 75) (kT (XN.1 C) l) none)) (cond (Nat.blt f 77) (cond (Nat.beq f 76) (kT (ac9.1 C) l) none) (cond (Nat.blt f 78) (cond (Nat.beq f 77) (kT (QP.1 C) l) none) (cond (Nat.beq f 78) (fQ (adA.1 C) l) none))))) (cond (Nat.blt f 85) (cond (Nat.blt f 82) (cond (Nat.blt f 81) (cond (Nat.beq f 80) (kT (adB.1 C) l) none) (cond (Nat.beq f 81) (XW (EL.1 C) l) none)) (cond (Nat.blt f 83) (cond (Nat.beq f 82) (XW (XO.1 C) l) none) (cond (Nat.blt f 84) (cond (Nat.beq f 83) (hU C glb f_law_pick l) none) (cond (Nat.beq f 84) (fQ (QQ.1 C) l) none)))) (cond (Nat.blt f 88) (cond (Nat.blt f 86) (cond (Nat.beq f 85) (fQ (XP.1 C) l) none) (cond (Nat.blt f 87) (cond (Nat.beq f 86) (fQ (XQ.1 C) l) none) (cond (Nat.beq f 87) (kT (QR.1 C) l) none))) (cond (Nat.blt f 89) (cond (Nat.beq f 88) (fQ (yR.1 C) l) none) (cond (Nat.blt f 90) (cond (Nat.beq f 89) (fQ (adC.1 C) l) none) (cond (Nat.beq f 90) (hU C glb f_law_beginning l) none)))))))))))))))))
noncomputable def aT (d:Nat):CF:=Nat.rec (motive:=fun _=>CF) (fun _ _=>none) (fun _ ih=>adF ih) d
inductive EM (P:Nat→Fn→Prop):Nat→List Fn→Prop
 |nil {n}:EM P n []
 |cons {n f l}:P n f→EM P (n+1) l→EM P n (f::l)
theorem EM.get {P:Nat→Fn→Prop}{n:Nat}{l:List Fn}(h:EM P n l):∀{i:Nat} {fn:Fn},l[i]? =some fn→P (n+i) fn:=by
 induction h with
 |nil=>intro i fn e;cases e
 | @cons n f l h _ ih=>
  intro i fn e
  cases i with
  |zero=>cases e;exact h
  |succ i=>exact (Nat.succ_add_eq_add_succ n i)▸ih e
def aY (f:Nat)(fn:Fn):Prop:=∀{C:CF} {l:List aE} {r:V×aE},adF C f l=some r→hU C glb fn l=some r∨hU JU glb fn l=some r
theorem sd0:aY 0 f_gcd:=fun {C l _} h=>.inl (aZ (l:=l) (fun a b=>sg0.2 C a b) h)
theorem sd1:aY 1 f_rat:=fun {_ l _} h=>.inr (let ⟨a,_,e,h⟩:=dH h;let ⟨b,e2,h⟩:=eQ h;by refine (Eq.symm e)▸?_;refine (Eq.symm e2)▸?_;exact QV h)
theorem sd2:aY 2 f_radd:=fun {C l _} h=>.inl (aZ (l:=l) (fun a b=>sg2.2 C a b) h)
theorem sd3:aY 3 f_rsub:=fun {C l _} h=>.inl (aZ (l:=l) (fun a b=>sg3.2 C a b) h)
theorem sd4:aY 4 f_rmul:=fun {C l _} h=>.inl (aZ (l:=l) (fun a b=>sg4.2 C a b) h)
theorem sd5:aY 5 f_rdiv:=fun {C l _} h=>.inl (aZ (l:=l) (fun a b=>sg5.2 C a b) h)
theorem sd6:aY 6 f_rneg:=fun {C l _} h=>.inl (bS (l:=l) (fun a=>sg6.2 C a) h)
theorem sd7:aY 7 f_rinv:=fun {C l _} h=>.inl (bS (l:=l) (fun a=>sg7.2 C a) h)
theorem sd8:aY 8 f_rpower:=fun {C l _} h=>.inl (aZ (l:=l) (fun a b=>sg8.2 C a b) h)
theorem sd9:aY 9 f_rcompare:=fun {C l _} h=>.inl (aZ (l:=l) (fun a b=>sg9.2 C a b) h)
theorem akV:aY 10 f_ginsert:=fun {C l _} h=>.inl (XX (l:=l) (fun a b c=>abV.2 C a b c) h)
theorem akW:aY 11 f_gadd:=fun {C l _} h=>.inl (aZ (l:=l) (fun a b=>abW.2 C a b) h)
theorem akX:aY 12 f_poly_sum:=fun {C l _} h=>.inl (aZ (l:=l) (fun a b=>abX.2 C a b) h)
theorem akY:aY 13 f_kind_product:=fun {C l _} h=>.inl (aZ (l:=l) (fun a b=>abY.2 C a b) h)
theorem akZ:aY 14 f_gmul:=fun {C l _} h=>.inl (aZ (l:=l) (fun a b=>abZ.2 C a b) h)
theorem ak0:aY 15 f_kind_compare:=fun {C l _} h=>.inl (aZ (l:=l) (fun a b=>ab0.2 C a b) h)
theorem ak1:aY 16 f_fastest:=fun {C l _} h=>.inl (bS (l:=l) (fun a=>ab1.2 C a) h)
theorem ak2:aY 17 f_gratio_power:=fun {C l _} h=>.inl (aZ (l:=l) (fun a b=>ab2.2 C a b) h)
theorem ak3:aY 18 f_growth_of:=fun {C l _} h=>.inl (aZ (l:=l) (fun a b=>ab3.2 C a b) h)
theorem ak4:aY 19 f_growth_of_other:=fun {C l _} h=>.inl (aZ (l:=l) (fun a b=>ab4.2 C a b) h)
theorem ak5:aY 20 f_far_limit:=fun {C l _} h=>.inl (bS (l:=l) (fun a=>ab5.2 C a) h)
theorem ak6:aY 21 f_cut:=fun {C l _} h=>.inl (aZ (l:=l) (fun a b=>ab6.2 C a b) h)
theorem ak7:aY 22 f_sadd:=fun {C l _} h=>.inl (aZ (l:=l) (fun a b=>XA.2 C a b) h)
theorem ak8:aY 23 f_mixed:=fun {C l _} h=>.inl (tP (l:=l) (fun a b c=>ab7.2 C a b c) h)
theorem ak9:aY 24 f_smul:=fun {C l _} h=>.inl (aZ (l:=l) (fun a b=>ab8.2 C a b) h)
theorem alA:aY 25 f_sinverse:=fun {C l _} h=>.inl (bS (l:=l) (fun a=>ab9.2 C a) h)
theorem alB:aY 26 f_need_begin:=fun {C l _} h=>.inl (aZ (l:=l) (fun a b=>acA.2 C a b) h)
theorem alC:aY 27 f_sexp:=fun {C l _} h=>.inl (bS (l:=l) (fun a=>acB.2 C a) h)
theorem alD:aY 28 f_ssin_cos:=fun {C l _} h=>.inl (bS (l:=l) (fun a=>acC.2 C a) h)
theorem alE:aY 29 f_ssin:=fun {C l _} h=>.inl (bS (l:=l) (fun a=>acD.2 C a) h)
theorem alF:aY 30 f_swhole_power:=fun {C l _} h=>.inl (aZ (l:=l) (fun a b=>acE.2 C a b) h)
theorem alG:aY 31 f_lplain:=fun {C l _} h=>.inl (aZ (l:=l) (fun a b=>acF.2 C a b) h)
theorem alH:aY 32 f_lmoved:=fun {C l _} h=>.inl (aZ (l:=l) (fun a b=>XB.2 C a b) h)
theorem alI:aY 33 f_ladd:=fun {C l _} h=>.inl (aZ (l:=l) (fun a b=>XC.2 C a b) h)
theorem alJ:aY 34 f_lmul:=fun {C l _} h=>.inl (aZ (l:=l) (fun a b=>acG.2 C a b) h)
theorem alK:aY 35 f_ltrim:=fun {C l _} h=>.inl (bS (l:=l) (fun a=>XD.2 C a) h)
theorem alL:aY 36 f_linverse:=fun {C l _} h=>.inl (bS (l:=l) (fun a=>acH.2 C a) h)
theorem alM:aY 37 f_lpower:=fun {C l _} h=>.inl (aZ (l:=l) (fun a b=>acI.2 C a b) h)
theorem alN:aY 38 f_lcut:=fun {C l _} h=>.inl (aZ (l:=l) (fun a b=>XE.2 C a b) h)
theorem alO:aY 39 f_from_zero:=fun {C l _} h=>.inl (bS (l:=l) (fun a=>acJ.2 C a) h)
theorem alP:aY 40 f_of_call:=fun {C l _} h=>.inl (aZ (l:=l) (fun a b=>acK.2 C a b) h)
theorem alQ:aY 41 f_of_power:=fun {C l _} h=>.inl (mR (l:=l) (fun a b c d=>acL.2 C a b c d) h)
theorem alR:aY 42 f_of_term:=fun {C l _} h=>.inl (tP (l:=l) (fun a b c=>XF.2 C a b c) h)
theorem alS:aY 43 f_laurent_of:=fun {C l _} h=>.inl (tP (l:=l) (fun a b c=>XG.2 C a b c) h)
theorem alT:aY 44 f_series_of:=fun {C l _} h=>.inl (mR (l:=l) (fun a b c d=>XH.2 C a b c d) h)
theorem alU:aY 45 f_from_begin:=fun {C l _} h=>.inl (aZ (l:=l) (fun a b=>QN.2 C a b) h)
theorem alV:aY 46 f_limit_near:=fun {C l _} h=>.inl (mR (l:=l) (fun a b c d=>XI.2 C a b c d) h)
theorem alW:aY 47 f_mirrored:=fun {C l _} h=>.inl (aZ (l:=l) (fun a b=>acM.2 C a b) h)
theorem alX:aY 48 f_limit_far:=fun {C l _} h=>.inl (tP (l:=l) (fun a b c=>acN.2 C a b c) h)
theorem alY:aY 49 f_limit:=fun {C l _} h=>.inl (mR (l:=l) (fun a b c d=>QO.2 C a b c d) h)
theorem alZ:aY 50 f_t_num:=fun {C l _} h=>.inl (aZ (l:=l) (fun a b=>XJ.2 C a b) h)
theorem al0:aY 51 f_t_sym:=fun {C l _} h=>.inl (bS (l:=l) (fun a=>acO.2 C a) h)
theorem al1:aY 52 f_t_sum:=fun {C l _} h=>.inl (bS (l:=l) (fun a=>acP.2 C a) h)
theorem al2:aY 53 f_t_prod:=fun {C l _} h=>.inl (bS (l:=l) (fun a=>acQ.2 C a) h)
theorem al3:aY 54 f_t_pow:=fun {C l _} h=>.inl (aZ (l:=l) (fun a b=>acR.2 C a b) h)
theorem al4:aY 55 f_t_minus:=fun {C l _} h=>.inl (bS (l:=l) (fun a=>acS.2 C a) h)
theorem al5:aY 56 f_is_num:=fun {C l _} h=>.inl (bS (l:=l) (fun a=>acT.2 C a) h)
theorem al6:aY 57 f_num_of:=fun {C l _} h=>.inl (bS (l:=l) (fun a=>acU.2 C a) h)
theorem al7:aY 58 f_is_whole_num:=fun {C l _} h=>.inl (bS (l:=l) (fun a=>acV.2 C a) h)
theorem al8:aY 59 f_sign_between:=fun {C l _} h=>.inl (aZ (l:=l) (fun a b=>acW.2 C a b) h)
theorem al9:aY 60 f_compare_values:=fun {C l _} h=>.inl (aZ (l:=l) (fun a b=>acX.2 C a b) h)
theorem amA:aY 61 f_bare_factors:=fun {C l _} h=>.inl (bS (l:=l) (fun a=>acY.2 C a) h)
theorem amB:aY 62 f_front_value:=fun {C l _} h=>.inl (bS (l:=l) (fun a=>acZ.2 C a) h)
theorem amC:aY 63 f_base_and_exponent:=fun {C l _} h=>.inl (bS (l:=l) (fun a=>ac0.2 C a) h)
theorem amD:aY 64 f_compare_rows:=fun {C l _} h=>.inl (aZ (l:=l) (fun a b=>ac1.2 C a b) h)
theorem amE:aY 65 f_compare_exponents:=fun {C l _} h=>.inl (aZ (l:=l) (fun a b=>ac2.2 C a b) h)
theorem amF:aY 66 f_compare_bases:=fun {C l _} h=>.inl (aZ (l:=l) (fun a b=>ac3.2 C a b) h)
theorem amG:aY 67 f_compare_factors:=fun {C l _} h=>.inl (aZ (l:=l) (fun a b=>ac4.2 C a b) h)
theorem amH:aY 68 f_compare_terms:=fun {C l _} h=>.inl (aZ (l:=l) (fun a b=>ac5.2 C a b) h)
theorem amI:aY 69 f_merged_terms:=fun {C l _} h=>.inl (aZ (l:=l) (fun a b=>ac6.2 C a b) h)
theorem amJ:aY 70 f_sort_terms:=fun {C l _} h=>.inl (bS (l:=l) (fun a=>ac7.2 C a) h)
theorem amK:aY 71 f_number_term:=fun {C l _} h=>.inl (bS (l:=l) (fun a=>ac8.2 C a) h)
theorem amL:aY 72 f_number_and_rest:=fun {C l _} h=>.inl (bS (l:=l) (fun a=>XK.2 C a) h)
theorem amM:aY 73 f_with_number:=fun {C l _} h=>.inl (aZ (l:=l) (fun a b=>XL.2 C a b) h)
theorem amN:aY 74 f_flat_parts:=fun {C l _} h=>.inl (aZ (l:=l) (fun a b=>XM.2 C a b) h)
theorem amO:aY 75 f_gathered_sum:=fun {C l _} h=>.inl (bS (l:=l) (fun a=>XN.2 C a) h)
theorem amP:aY 76 f_as_power:=fun {C l _} h=>.inl (bS (l:=l) (fun a=>ac9.2 C a) h)
theorem amQ:aY 77 f_gathered_product:=fun {C l _} h=>.inl (bS (l:=l) (fun a=>QP.2 C a) h)
theorem amR:aY 78 f_power_of:=fun {C l _} h=>.inl (aZ (l:=l) (fun a b=>adA.2 C a b) h)
theorem amS:aY 79 f_simplify:=fun {C l _} h=>.inl (bS (l:=l) (fun a=>JM.2 C a) h)
theorem amT:aY 80 f_limit_end:=fun {C l _} h=>.inl (bS (l:=l) (fun a=>adB.2 C a) h)
theorem amU:aY 81 f_limit_term:=fun {C l _} h=>.inl (mR (l:=l) (fun a b c d=>EL.2 C a b c d) h)
theorem amV:aY 82 f_taylor_term:=fun {C l _} h=>.inl (mR (l:=l) (fun a b c d=>XO.2 C a b c d) h)
theorem amW:aY 83 f_law_pick:=fun h=>.inl h
theorem amX:aY 84 f_law_ratio:=fun {C l _} h=>.inl (aZ (l:=l) (fun a b=>QQ.2 C a b) h)
theorem amY:aY 85 f_law_plus:=fun {C l _} h=>.inl (aZ (l:=l) (fun a b=>XP.2 C a b) h)
theorem amZ:aY 86 f_law_raised:=fun {C l _} h=>.inl (aZ (l:=l) (fun a b=>XQ.2 C a b) h)
theorem am0:aY 87 f_law_term:=fun {C l _} h=>.inl (bS (l:=l) (fun a=>QR.2 C a) h)
theorem am1:aY 88 f_law_value:=fun {C l _} h=>.inl (aZ (l:=l) (fun a b=>yR.2 C a b) h)
theorem am2:aY 89 f_law_choose:=fun {C l _} h=>.inl (aZ (l:=l) (fun a b=>adC.2 C a b) h)
theorem am3:aY 90 f_law_beginning:=fun h=>.inl h
theorem am4 {fn:Fn}:aY 91 fn:=fun h=>no h
theorem am5 {fn:Fn}:aY 92 fn:=fun h=>no h
theorem am6 {fn:Fn}:aY 93 fn:=fun h=>no h
theorem QW:EM aY 0 nS:=.cons sd0 (.cons sd1 (.cons sd2 (.cons sd3 (.cons sd4 (.cons sd5 (.cons sd6 (.cons sd7 (.cons sd8 (.cons sd9 (.cons akV (.cons akW (.cons akX (.cons akY (.cons akZ (.cons ak0 (.cons ak1 (.cons ak2 (.cons ak3 (.cons ak4 (.cons ak5 (.cons ak6 (.cons ak7 (.cons ak8 (.cons ak9 (.cons alA (.cons alB (.cons alC (.cons alD (.cons alE (.cons alF (.cons alG (.cons alH (.cons alI (.cons alJ (.cons alK (.cons alL (.cons alM (.cons alN (.cons alO (.cons alP (.cons alQ (.cons alR (.cons alS (.cons alT (.cons alU (.cons alV (.cons alW (.cons alX (.cons alY (.cons alZ (.cons al0 (.cons al1 (.cons al2 (.cons al3 (.cons al4 (.cons al5 (.cons al6 (.cons al7 (.cons al8 (.cons al9 (.cons amA (.cons amB (.cons amC (.cons amD (.cons amE (.cons amF (.cons amG (.cons amH (.cons amI (.cons amJ (.cons amK (.cons amL (.cons amM (.cons amN (.cons amO (.cons amP (.cons amQ (.cons amR (.cons amS (.cons amT (.cons amU (.cons amV (.cons amW (.cons amX (.cons amY (.cons amZ (.cons am0 (.cons am1 (.cons am2 (.cons am3 (.cons am4 (.cons am5 (.cons am6 (.nil))))))))))))))))))))))))))))))))))))))))))))))))))))))))))))))))))))))))))))))))))))))))))))))
theorem eG {α β:Type}{o:Option α}{f:α→Option β}{x:α}{z:β}(h:o=some x)(k:f x=some z):o.bind f=some z:=by refine (Eq.symm h)▸?_;exact k
noncomputable def Cn (d:Nat):CF:=Nat.rec (motive:=fun _=>CF) (fun _ _=>none) (fun d _=>aT d) d
def qv (r:Rat):V:=.tup [.int r.num,.int r.den]
def nv (r:Rat):V:=.tup [.str 0,.int r.num,.int r.den]
def Sm (r:Rat):Prop:=r.num.natAbs<2^19∧r.den<2^19
theorem bZ {d f:Nat}{l:List aE}{z:V×aE}(h:aT d f l=some z):Cn (d+1) f l=some z:=h
theorem JW {d:Nat}{i:Int}{j:Nat}(hj:j≠0)(hb:j<2^40):Cn (d+2) 1 [.v (.int i),.v (.int j)]=some (qv (mkRat i j),.un):=by
 have hj0:(0:Int)<j:=by lia
 have e1:lD 0 j=true:=by rw [gX,decide_eq_true_eq];exact hj0
 have e2:Nat.blt (j:Int).natAbs 1099511627776=true:=by rw [Nat.blt_eq,Int.natAbs_natCast];exact hb
 refine (show Cn (d+2) 1 [.v (.int i),.v (.int j)]=QU (.int i) (.int j) from rfl).trans ?_
 refine (show QU (.int i) (.int j)=cond (lD 0 j) (cond (Nat.blt (j:Int).natAbs 1099511627776) (vC (Nat.gcd i.natAbs (j:Int).natAbs) fun g=>yV i g fun x=>yV j g fun y=>some (.tup [.int x,.int y],.un)) none) _ from rfl).trans ?_
 rw [e1,aI,e2,aI,lV,oB (Int.ofNat_dvd_left.mpr (Nat.gcd_dvd_left _ _)),oB (Int.ofNat_dvd_left.mpr (Nat.gcd_dvd_right _ _)),Int.natAbs_natCast]
 have h1:(mkRat i j).num=Int.fdiv i (Int.ofNat (Nat.gcd i.natAbs j)):=by
  rw [Rat.num_mkRat,if_neg hj,Nat.gcd_comm,Int.ofNat_eq_natCast,Int.fdiv_eq_ediv_of_nonneg _ (Int.natCast_nonneg _)]
 have h2:((mkRat i j).den:Int)=Int.fdiv j (Int.ofNat (Nat.gcd i.natAbs j)):=by
  rw [Rat.den_mkRat,if_neg hj,Nat.gcd_comm,Int.ofNat_eq_natCast,Int.fdiv_eq_ediv_of_nonneg _ (Int.natCast_nonneg _)];rfl
 rw [qv,h1,h2]
theorem Sm.num {r:Rat}(h:Sm r):r.num.natAbs<2^40:=Nat.lt_of_lt_of_le h.1 (by decide)
theorem Sm.den {r:Rat}(h:Sm r):(r.den:Int).natAbs<2^40:=by rw [Int.natAbs_natCast];exact Nat.lt_of_lt_of_le h.2 (by decide)
theorem pP {r s:Rat}(hr:Sm r)(hs:Sm s):r.den*s.den≠0∧r.den*s.den<2^40:=by
 refine ⟨Nat.mul_ne_zero r.den_nz s.den_nz,?_⟩
 have h:r.den*s.den≤2^19*2^19:=Nat.mul_le_mul (Nat.le_of_lt hr.2) (Nat.le_of_lt hs.2)
 exact Nat.lt_of_le_of_lt h (by decide)
theorem JX {d:Nat}{r s:Rat}(hr:Sm r)(hs:Sm s):Cn (d+3) 2 [.v (qv r),.v (qv s)]=some (qv (r+s),.un):=
 have h:=pP hr hs
 (sg2.2 (Cn (d+2)) _ _).symm.trans<|cR (r:=[]) (ρ1:=[.v (qv r),.v (qv s)]) (κ:=aC false .none) (q:=aC false)<|
  aS (bR (dI (dN (fun _=>rfl) (fun _=>rfl) hr.num) (dN (fun _=>rfl) (fun _=>rfl) hs.num) rfl) (dN (i:=r.den) (j:=s.den) (fun _=>rfl) (fun _=>rfl) hr.den))<|
  (JW (i:=r.num*s.den+s.num*r.den) h.1 h.2).trans (by rw [Rat.add_def'])
theorem JY {d:Nat}{r s:Rat}(hr:Sm r)(hs:Sm s):Cn (d+3) 4 [.v (qv r),.v (qv s)]=some (qv (r*s),.un):=
 have h:=pP hr hs
 (sg4.2 (Cn (d+2)) _ _).symm.trans<|cR (r:=[]) (ρ1:=[.v (qv r),.v (qv s)]) (κ:=aC false .none) (q:=aC false)<|
  aS (bR (dN (fun _=>rfl) (fun _=>rfl) hr.num) (dN (i:=r.den) (j:=s.den) (fun _=>rfl) (fun _=>rfl) hr.den))<|
  (JW (i:=r.num*s.num) h.1 h.2).trans (by rw [Rat.mul_def'])
theorem UP {d:Nat}{r:Rat}(hr:Sm r):Cn (d+2) 1 [.v (.int r.num),.v (.int r.den)]=some (qv r,.un):=by
 rw [JW r.den_nz (Nat.lt_of_lt_of_le hr.2 (by decide)),Rat.mkRat_self]
theorem JZ {β:Type}{i j:Int}{k:Bool→Option β}:qN (.int i) (.int j) k=k (iW i j):=rfl
theorem pQ {β:Type}{m n:Nat}{k:Bool→Option β}(hm:m<27)(hn:n<27):qN (.str m) (.str n) k=k (Nat.beq m n):=by
 refine (?_:cond (Nat.blt m 27) (cond (Nat.blt n 27) _ none) none=_)
 refine (Eq.symm (Nat.blt_eq.mpr hm))▸?_;refine (Eq.symm (Nat.blt_eq.mpr hn))▸?_;rfl
theorem UQ {β:Type}{i j m n:Int}{k:Bool→Option β}:qN (.tup [.int i,.int j]) (.tup [.int m,.int n]) k=k (iW i m && iW j n):=by
 refine (?_:((some (iW i m)).bind fun t=>cond t ((some (iW j n)).bind fun t=>cond t (some true) (some false)) (some false)).bind k=_)
 cases iW i m
 ·rfl
 ·cases iW j n<;>rfl
theorem UR {β:Type}{a b:Rat}{k:Bool→Option β}:qN (qv a) (qv b) k=k (decide (a=b)):=UQ.trans (congrArg k (by
 rw [eB,eB,Bool.eq_iff_iff,Bool.and_eq_true,decide_eq_true_iff,decide_eq_true_iff,decide_eq_true_iff]
 exact ⟨fun h=>Rat.ext h.1 (Int.ofNat.inj h.2),fun h=>⟨congrArg Rat.num h,congrArg (fun r=>(Rat.den r:Int)) h⟩⟩))
theorem lW {c:Rat}:iW c.num 0=decide (c=0):=by
 rw [eB];congr 1;exact propext Rat.num_eq_zero
noncomputable def cW:V:=.tup [.str 0,.int 1,.int 1]
noncomputable def wn (c:Rat)(R:V):V:=if c=0 then nv 0 else if c=1 then R else .tup [.str 3,.tup [nv c,R]]
theorem jT {d:Nat}{p q:Int}:Cn (d+2) 71 [.v (.tup [.int p,.int q])]=some (.tup [.str 0,.int p,.int q],.un):=bZ (d:=d+1) (by kernel_rfl)
theorem tQ {d:Nat}{p q:Int}:Cn (d+2) 72 [.v (.tup [.str 0,.int p,.int q])]=some (.tup [.tup [.int p,.int q],.tup [.str 0,.int 1,.int 1]],.un):=bZ (d:=d+1) (by kernel_rfl)
theorem KA {d:Nat}{p q:Int}{R:V}:Cn (d+2) 72 [.v (.tup [.str 3,.tup [.tup [.str 0,.int p,.int q],R]])]=some (.tup [.tup [.int p,.int q],R],.un):=bZ (d:=d+1) (by kernel_rfl)
structure qY (R:V):Prop where
 key:cC R=true
 ok:gI 20 R=true
 one:iH 20 R cW=some false
 tag:∃t r,R=.tup (.str t::r)∧t<27∧t≠0∧t≠3
theorem yX {t n:Nat}(h:t≠n):Nat.beq t n=false:=by
 cases e:Nat.beq t n
 ·rfl
 ·exact absurd (Nat.eq_of_beq_eq_true e) h
theorem US {β:Type}{m n:Nat}{t:Bool}(hm:m<27)(hn:n<27)(e:Nat.beq m n=t)(K:V→Option β):bK .eq (.str m) (.str n) K=K (.bool t):=(pQ (k:=fun t=>K (.bool t)) hm hn).trans (congrArg (fun t=>K (.bool t)) e)
theorem adG {β:Type}{m n:Nat}{t:Bool}(hm:m<27)(hn:n<27)(e:Nat.beq m n=t)(K:V→Option β):bK .ne (.str m) (.str n) K=K (.bool (not t)):=(pQ (k:=fun t=>K (.bool (not t))) hm hn).trans (congrArg (fun t=>K (.bool (not t))) e)
theorem wA {d:Nat}{R:V}(h:qY R):Cn (d+2) 72 [.v R]=some (.tup [qv 1,R],.un):=
 FX h.tag fun t r e h1 h2 h3=>e▸(XK.2 (Cn (d+1)) _).symm.trans (eE (ρ1:=[.v (.tup (.str t::r)),.un]) (mQ (bQ (x:=.str t) (y:=.str 0) (fun _=>rfl) (fun _=>rfl) (US h1 (by decide) (yX h2))) iD)
  (yT (AX rfl (bQ (x:=.str t) (y:=.str 3) (fun _=>rfl) (fun _=>rfl) (adG h1 (by decide) (yX h3)))) fun κ=>cR (r:=[]) (κ:=κ) (q:=aC false) (ρ1:=[.v (.tup (.str t::r)),.un]) fun _=>rfl))
theorem XY {d:Nat}{c:Rat}{R:V}(hc:c≠0)(h:qY R):Cn (d+2) 72 [.v (wn c R)]=some (.tup [qv c,R],.un):=by
 unfold wn
 refine (Eq.symm (if_neg hc))▸?_
 by_cases e:c=1
 ·refine (Eq.symm (if_pos e))▸?_;refine (Eq.symm e)▸?_;exact wA h
 ·refine (Eq.symm (if_neg e))▸?_;exact KA
theorem KB {β:Type}{R:V}(h:qY R)(K:V→Option β):bK .eq R cW K=K (.bool false):=by
 refine bA h.tag fun t r e=>?_
 have h1:=h.one
 have h2:=h.ok
 rw [e.1] at h1 h2 ⊢
 refine (?_:cond (gI 20 _) (cond (gI 20 cW) ((iH 20 _ cW).bind fun t=>K (.bool t)) none) none=_)
 rw [h2]
 exact bD h1 rfl
theorem adH {d:Nat}{c:Rat}{R:V}(h:qY R):Cn (d+3) 73 [.v (qv c),.v R]=some (wn c R,.un):=by
 refine (XL.2 (Cn (d+2)) _ _).symm.trans ?_
 have c1:∀{t:Bool},decide (c=0)=t→Ev (Cn (d+2)) V (.cmp .eq (.subN (.var 0) 0) (.int 0)) [.v (qv c),.v R] (.bool t) [.v (qv c),.v R]:=fun e=>bQ (x:=.int c.num) (y:=.int 0) (fun _=>rfl) (fun _=>rfl) (JS (lW.trans e))
 by_cases c0:c=0
 ·rw [wn,if_pos c0]
  exact c0▸yT (AX rfl (c1 (decide_eq_true c0))) fun κ=>cR (r:=[]) (κ:=κ) (q:=aC false) (ρ1:=[.v (qv c),.v R]) (aS (dX fun _=>rfl) (jT (d:=d)))
 ·rw [wn,if_neg c0]
  refine eE (ρ1:=[.v (qv c),.v R]) (mQ (JN (s:=false) (t:=false) rfl (c1 (decide_eq_false c0)) (bQ (x:=R) (y:=cW) (fun _=>rfl) (fun _=>rfl) (KB h))) iD) ?_
  have c2:∀{t:Bool},decide (c=1)=t→Ev (Cn (d+2)) (V×aE) (.cmp .eq (.var 0) (.tup [.int 1,.int 1])) [.v (qv c),.v R] (.bool t) [.v (qv c),.v R]:=fun e=>bQ (x:=qv c) (y:=qv 1) (fun _=>rfl) (fun _=>rfl) fun K=>(UR (k:=fun t=>K (.bool t))).trans (congrArg (fun t=>K (.bool t)) e)
  by_cases e:c=1
  ·rw [if_pos e]
   exact yT (c2 (decide_eq_true e)) fun κ=>cR (r:=[]) (κ:=κ) (q:=aC false) (ρ1:=[.v (qv c),.v R]) fun _=>rfl
  ·rw [if_neg e]
   refine FX h.tag fun t r hR h1 h2 h3=>?_
   exact eE (ρ1:=[.v (qv c),.v R]) (mQ (c2 (decide_eq_false e)) iD) (cR (r:=[]) (κ:=aC false .none) (q:=aC false) (ρ1:=[.v (qv c),.v R]) (eD (bR (fun _=>rfl) (dM (eD (dX (aS (dX fun _=>rfl) (jT (d:=d))))) (gB (t:=false) (u:=.tup [R]) rfl (bQ (x:=.str t) (y:=.str 3) (yS (x:=R) (fun _=>rfl) fun K=>hR.symm▸rfl) (fun _=>rfl) (US h1 (by decide) (yX h3))) fun _=>rfl) fun _=>rfl))))
noncomputable def fl (kd:Nat)(p:V):List V:=match p with
 |.tup [.str t,.tup l]=>if t=kd then l else [p]
 |_=>[p]
structure EO (kd:Nat)(p:V):Prop where
 tag:∃t r,p=.tup (.str t::r)∧t<27∧(t=kd→∃l,r=[.tup l]∧l.length≤50)
theorem am7 {kd:Nat}{l:List V}:fl kd (.tup [.str kd,.tup l])=l:=if_pos rfl
theorem XZ {t kd:Nat}(h:t≠kd)(r:List V):fl kd (.tup (.str t::r))=[.tup (.str t::r)]:=by
 cases r with
 |nil=>rfl
 |cons x r=>cases r with
  |cons y r=>cases x<;>rfl
  |nil=>cases x with
   |tup l=>exact if_neg h
   |_=>rfl
noncomputable def sF (ps:List V)(kd:Nat)(s:List V)(x:aE):Fm:=[.v (.lst ps),.v (.str kd),.l s,x]
def adI (ps:List V)(kd n:Nat)(s:List V)(ρ:Fm):Prop:=s.length+50*n≤500∧∃x,ρ=sF ps kd s x
theorem QX {C:CF}{β:Type}{q:V→Fm→Option β}{kd:Nat}{ps s:List V}{p:V}(hk:kd<27)(h:EO kd p)(hs:s.length≤450):(fl kd p).length≤50∧Es C β q (cK (nM (cK f_flat_parts.body 1)) 0) (sF ps kd s (.v p)) (sF ps kd (s++fl kd p) (.v p)):=by
 refine bN h.tag fun t r e ht hr=>?_
 subst e
 by_cases e:t=kd
 ·refine aD (hr e) fun l e2 hl=>?_
  subst e2 e
  refine (Eq.symm am7)▸?_
  exact ⟨hl,JP (gB (t:=true) rfl (bQ (x:=.str t) (y:=.str t) (fun _=>rfl) (fun _=>rfl) fun K=>(pQ (k:=fun t=>K (.bool t)) ht hk).trans (congrArg (fun t=>K (.bool t)) (Nat.beq_refl t))) (kB (x:=.tup l) (fun _=>rfl) fun K=>congrArg (cond · _ none) (Nat.ble_eq_true_of_le (Nat.le_trans hl (by decide))))) rfl rfl (by lia) rfl⟩
 ·refine (Eq.symm (XZ e r))▸?_
  exact ⟨(by decide:1≤50),JP (gB (t:=false) rfl (bQ (x:=.str t) (y:=.str kd) (fun _=>rfl) (fun _=>rfl) fun K=>(pQ (k:=fun t=>K (.bool t)) ht hk).trans (congrArg (fun t=>K (.bool t)) (Bool.eq_false_iff.mpr fun g=>e (Nat.eq_of_beq_eq_true g)))) (fun _=>rfl)) rfl rfl (show s.length+1≤1000 by lia) rfl⟩
theorem BC {kd:Nat}:∀(l s:List V),l.foldl (fun s p=>s++fl kd p) s=s++l.flatMap (fl kd)
 |[],s=>(List.append_nil s).symm
 |a::l,s=>(BC l _).trans (List.append_assoc _ _ _)
theorem YA {d kd:Nat}{ps:List V}(hk:kd<27)(h:∀p∈ps,EO kd p)(hn:ps.length≤10):Cn (d+2) 74 [.v (.lst ps),.v (.str kd)]=some (.lst (ps.flatMap (fl kd)),.un):=by
 refine aD (gZ (C:=Cn (d+1)) (q:=aC false) (xs:=[3]) (sr:=.val (.var 0)) (b:=nM (cK f_flat_parts.body 1)) (ρ:=sF ps kd [] .un) (val:=id) (L:=ps) (s:=[]) (adI ps kd) (fun s p=>s++fl kd p) 4 rfl (fun K=>congrArg (fun l=>K l _) (List.map_id ps).symm) (fun _ _ _ g=>g.2.elim fun _ e=>e▸rfl) ⟨show 0+50*ps.length≤500 by lia,_,rfl⟩ fun p hp n s τ g=>?_) fun τ g e=>?_
 ·refine aR g.2 fun x e=>?_
  subst e
  refine aF (QX (C:=Cn (d+1)) (β:=V×aE) (q:=aC false) (ps:=ps) (s:=s) hk (h p hp) (by have:=g.1;lia)) fun h1 h2=>?_
  exact bM (sF ps kd s (.v p)) _ ⟨fun _=>rfl,⟨by have:=g.1;rw [List.length_append];lia,_,rfl⟩,vY h2⟩
 ·refine aR g.2 fun x e2=>?_
  subst e2
  refine (XM.2 (Cn (d+1)) _ _).symm.trans ((e _).trans ?_)
  exact congrArg (fun l=>some (V.lst l,aE.un)) (BC ps [])
def Bd (r:Rat)(n:Nat):Prop:=∃m:Int,r=mkRat m 64∧m.natAbs≤n*2^14
theorem tR (m:Int)(d:Nat):(mkRat m d).num.natAbs≤m.natAbs:=by
 rw [Rat.num_mkRat]
 split
 ·exact Nat.zero_le _
 ·refine Nat.le_trans (Int.natAbs_ediv_le_natAbs _ _) (Nat.le_refl _)
theorem mS (m:Int){d:Nat}(hd:d≠0):(mkRat m d).den≤d:=by
 rw [Rat.den_mkRat,if_neg hd]
 exact Nat.div_le_self _ _
theorem Bd.sm {r:Rat}{n:Nat}(h:Bd r n)(hn:n≤16):Sm r:=by
 refine aD h fun m aiO hm=>?_;subst aiO
 constructor
 ·refine Nat.lt_of_le_of_lt (tR m 64) ?_
  have:n*2^14≤16*2^14:=Nat.mul_le_mul_right _ hn
  lia
 ·exact Nat.lt_of_le_of_lt (mS m (by decide)) (by decide)
theorem Bd.add {r s:Rat}{n k:Nat}(h:Bd r n)(g:Bd s k):Bd (r+s) (n+k):=by
 refine aD h fun m aiP hm=>?_;subst aiP
 refine aD g fun l aiQ hl=>?_;subst aiQ
 refine ⟨m+l,?_,?_⟩
 ·rw [Rat.mkRat_add_mkRat _ _ (by decide) (by decide),show m*(64:Nat)+l*(64:Nat)=(m+l)*(64:Nat) by rw [Int.add_mul],Rat.mkRat_mul_right (by decide)]
 ·rw [Nat.add_mul];exact Nat.le_trans (Int.natAbs_add_le _ _) (Nat.add_le_add hm hl)
theorem Bd.zero (n:Nat):Bd 0 n:=⟨0,by rw [Rat.zero_mkRat],Nat.zero_le _⟩
theorem Bd.mono {r:Rat}{n k:Nat}(h:Bd r n)(g:n≤k):Bd r k:=by
 refine aD h fun m e hm=>?_
 exact ⟨m,e,Nat.le_trans hm (Nat.mul_le_mul_right _ g)⟩
noncomputable def V.beq (a b:V):Bool:=(iH 8 a b).getD false
theorem KC {f:V→V→Option Bool}{h:V→Bool}(hf:∀a b,h a=true→h b=true→∃t,f a b=some t):∀{l m:List V},oQ h l=true→oQ h m=true→∃t,OL f l m=some t:=fun {l}=>by
 induction l with
 |nil=>intro m _ _;cases m<;>exact ⟨_,rfl⟩
 |cons x l ih=>
  intro m h1 h2
  cases m with
  |nil=>exact ⟨_,rfl⟩
  |cons y m=>
   refine eS fun gG gH=>?_;refine aF (jP h1) fun a1 b1=>?_
   refine aF (jP h2) fun a2 b2=>?_
   refine aR (hf x y a1 a2) fun t e=>?_
   refine aR (ih b1 b2) fun u e2=>?_
   refine gH ?_;refine (show ∃t,(f x y).bind (fun t=>cond t (OL f l m) (some false))=some t from ?_)
   refine (Eq.symm e)▸?_;refine (Eq.symm e2)▸?_
   cases t<;>exact ⟨_,rfl⟩
theorem KD:∀(n:Nat) (a b:V),gI n a=true→gI n b=true→∃t,iH n a b=some t:=fun n=>by
 induction n with
 |zero=>
  intro a b h1 h2
  cases a<;>first|cases h1|skip
  all_goals (cases b<;>first|exact ⟨_,rfl⟩|cases h2)
 |succ n ih=>
  intro a b h1 h2
  cases a<;>first|cases h1|skip
  all_goals (cases b<;>first|exact ⟨_,rfl⟩|exact KC ih h1 h2|cases h2)
theorem BD {n:Nat}{x:V}(h:gI n x=true):gI (n+1) x=true:=GW n x h
theorem KE {a b:V}(ha:cC a=true)(hb:cC b=true):iH 8 a b=some (V.beq a b):=by
 refine aR (KD 8 a b (BD (fU ha).1) (BD (fU hb).1)) fun t e=>?_
 unfold V.beq
 refine (Eq.symm e)▸?_;rfl
noncomputable def cE:List (V×Rat)→V→Option Rat
 |[],_=>none
 |(a,x)::r,k=>if V.beq a k then some x else cE r k
noncomputable def jW:List (V×Rat)→V→Rat→List (V×Rat)
 |[],k,c=>[(k,c)]
 |(a,x)::r,k,c=>if V.beq a k then (a,x+c)::r else (a,x)::jW r k c
noncomputable def eR:List (V×Rat)→V→List (V×Rat)
 |[],_=>[]
 |(a,x)::r,k=>if V.beq a k then r else (a,x)::eR r k
noncomputable def em (m:List (V×Rat)):List (V×V):=m.map fun p=>(p.1,qv p.2)
theorem yY {a k:V}{x c:Rat}{r:List (V×Rat)}(h:V.beq a k=true):jW ((a,x)::r) k c=(a,x+c)::r:=if_pos h
theorem tS {a k:V}{x c:Rat}{r:List (V×Rat)}(h:V.beq a k=false):jW ((a,x)::r) k c=(a,x)::jW r k c:=if_neg (Bool.eq_false_iff.mp h)
theorem tT {a k:V}{x:Rat}{r:List (V×Rat)}(h:V.beq a k=true):cE ((a,x)::r) k=some x:=if_pos h
theorem tU {a k:V}{x:Rat}{r:List (V×Rat)}(h:V.beq a k=false):cE ((a,x)::r) k=cE r k:=if_neg (Bool.eq_false_iff.mp h)
theorem KF {a k:V}{x:Rat}{r:List (V×Rat)}(h:V.beq a k=true):eR ((a,x)::r) k=r:=if_pos h
theorem KG {a k:V}{x:Rat}{r:List (V×Rat)}(h:V.beq a k=false):eR ((a,x)::r) k=(a,x)::eR r k:=if_neg (Bool.eq_false_iff.mp h)
theorem YB {b:Bool}{M:Prop}(t:b=true→M)(f:b=false→M):M:=b.rec (motive:=fun c=>b=c→M) f t rfl
theorem dQ {M:List (V×Rat)→Prop}(h0:M [])(h1:∀a x m,M m→M ((a,x)::m))(m:List (V×Rat)):M m:=List.rec h0 (fun p m ih=>Prod.rec (fun a x=>h1 a x m ih) p) m
theorem mT {β:Type}{a k:V}(ha:cC a=true)(hk:cC k=true){t:Bool}(e:V.beq a k=t)(f:Bool→Option β):(iH 8 a k).bind f=f t:=bD (KE ha hk) (congrArg f e)
theorem wB {β:Type}{q:Option V→Option β}{k:V}(hk:cC k=true){m:List (V×Rat)}:(∀p∈m,cC p.1=true)→fW k q (em m)=q ((cE m k).map qv):=
 dQ (M:=fun m=>(∀p∈m,cC p.1=true)→fW k q (em m)=q ((cE m k).map qv)) (fun _=>rfl) (fun a x r ih h=>YB (b:=V.beq a k)
  (fun e=>by rw [tT e];exact mT (h _ (.head _)) hk e _)
  fun e=>by rw [tU e];exact (mT (h _ (.head _)) hk e _).trans (ih fun p hp=>h p (.tail _ hp))) m
theorem QY {k:V}{c:Rat}(hk:cC k=true){m:List (V×Rat)}:(∀p∈m,cC p.1=true)→qP k (qv ((cE m k).getD 0+c)) (em m)=some (em (jW m k c)):=
 dQ (M:=fun m=>(∀p∈m,cC p.1=true)→qP k (qv ((cE m k).getD 0+c)) (em m)=some (em (jW m k c))) (fun _=>congrArg (fun r=>some [(k,qv r)]) (Rat.zero_add c)) (fun a x r ih h=>YB (b:=V.beq a k)
  (fun e=>(mT (h _ (.head _)) hk e _).trans (by rw [tT e,yY e];rfl))
  fun e=>(mT (h _ (.head _)) hk e _).trans (by rw [tU e,tS e];exact bD (ih fun p hp=>h p (.tail _ hp)) rfl)) m
theorem QZ {k:V}(hk:cC k=true){m:List (V×Rat)}:(∀p∈m,cC p.1=true)→sS k (em m)=some (em (eR m k)):=
 dQ (M:=fun m=>(∀p∈m,cC p.1=true)→sS k (em m)=some (em (eR m k))) (fun _=>rfl) (fun a x r ih h=>YB (b:=V.beq a k)
  (fun e=>by rw [KF e];exact mT (h _ (.head _)) hk e _)
  fun e=>by rw [KG e];exact (mT (h _ (.head _)) hk e _).trans (bD (ih fun p hp=>h p (.tail _ hp)) rfl)) m
theorem KH {m:List (V×Rat)}{k:V}{c:Rat}{n j:Nat}(hc:Bd c j)(hj:1≤j):(∀p∈m,cC p.1=true∧Bd p.2 n)→cC k=true→∀p∈jW m k c,cC p.1=true∧Bd p.2 (n+j):=
 dQ (M:=fun m=>(∀p∈m,cC p.1=true∧Bd p.2 n)→cC k=true→∀p∈jW m k c,cC p.1=true∧Bd p.2 (n+j))
  (fun _ hk p hp=>List.eq_of_mem_singleton hp▸⟨hk,hc.mono (Nat.le_add_left _ _)⟩) (fun a x m ih h hk p hp=>YB (b:=V.beq a k)
  (fun e=>by
   rw [yY e] at hp
   cases hp with
   |head=>exact ⟨(h _ (.head _)).1,(h _ (.head _)).2.add hc⟩
   |tail _ hp=>exact ⟨(h _ (.tail _ hp)).1,(h _ (.tail _ hp)).2.mono (Nat.le_add_right _ _)⟩)
  fun e=>by
   rw [tS e] at hp
   cases hp with
   |head=>exact ⟨(h _ (.head _)).1,(h _ (.head _)).2.mono (Nat.le_add_right _ _)⟩
   |tail _ hp=>exact ih (fun p hp=>h p (.tail _ hp)) hk p hp) m
theorem KI (m:List (V×Rat))(k:V)(c:Rat):(jW m k c).length≤m.length+1:=
 dQ (M:=fun m=>(jW m k c).length≤m.length+1) (Nat.le_refl _) (fun a x m ih=>YB (b:=V.beq a k) (fun e=>(yY (x:=x) (c:=c) (r:=m) e).symm▸Nat.le_succ _) fun e=>(tS (x:=x) (c:=c) (r:=m) e).symm▸Nat.succ_le_succ ih) m
theorem KJ {m:List (V×Rat)}{k:V}{n:Nat}:(∀p∈m,cC p.1=true∧Bd p.2 n)→Bd ((cE m k).getD 0) n:=
 dQ (M:=fun m=>(∀p∈m,cC p.1=true∧Bd p.2 n)→Bd ((cE m k).getD 0) n) (fun _=>Bd.zero n) (fun a x m ih h=>YB (b:=V.beq a k) (fun e=>(tT (x:=x) (r:=m) e).symm▸(h _ (.head _)).2) fun e=>(tU (x:=x) (r:=m) e).symm▸ih fun p hp=>h p (.tail _ hp)) m
theorem RB {β:Type}{c:Rat}{k:V→Option β}:vD (qv c) 0 k=k (.int c.num):=rfl
theorem RC {β:Type}{c:Rat}{k:V→Option β}:vD (qv c) 1 k=k (.int c.den):=rfl
structure BE where
 c:Rat
 k:V
 v:V
noncomputable def hK (L:List BE):List (V×Rat):=L.foldl (fun m p=>jW m p.k p.c) []
noncomputable def bI:List (V×Rat)→List V
 |[]=>[]
 |(k,x)::m=>if x=0 then bI m else wn x k::bI m
theorem oE {k:V}{x:Rat}{m:List (V×Rat)}(h:x=0):bI ((k,x)::m)=bI m:=if_pos h
theorem lX {k:V}{x:Rat}{m:List (V×Rat)}(h:x≠0):bI ((k,x)::m)=wn x k::bI m:=if_neg h
theorem wC (m:List (V×Rat)):(bI m).length≤m.length:=
 dQ (M:=fun m=>(bI m).length≤m.length) (Nat.le_refl _) (fun k x m ih=>by
  by_cases e:x=0
  ·exact (oE (k:=k) (m:=m) e).symm▸Nat.le_succ_of_le ih
  ·exact (lX (k:=k) (m:=m) e).symm▸Nat.succ_le_succ ih) m
noncomputable def hG:List V→V
 |[]=>nv 0
 |[x]=>x
 |l=>.tup [.str 2,.tup l]
section
variable {C:CF}{β:Type}{ρ ρ1 ρ2:Fm}{x y z v:V}{a b e:E}{l:List V}{q:V→Fm→Option β}
noncomputable def pR (C:CF)(nv:Nat)(ifs:List E)(elt:E)(ρ:Fm)(x:V):Option (Option V):=
 fX nv x fun bs=>cM C glb ifs _ (ρ++bs) fun t _=>dG t fun c=>cond c (kE C glb elt _ (ρ++bs) fun y _=>some (some y)) (some none)
theorem lY {nv:Nat}{sr:Sr}{ifs:List E}(p:(aK ifs && aJ e)=true)(hs:∀K:List V→Fm→Option β,gJ C glb sr β ρ K=K l ρ1){w:List V}(hk:xM (pR C nv ifs e ρ1) l=some w)(hl:l.length≤1000)(hr:ρ1.length=ρ.length):Ev C β (.comp nv sr ifs e) ρ (.lst w) ρ1:=fun k=>
 (congrArg (cond · _ _) p).trans ((hs _).trans (bD hk ((congrArg (cond · _ none) (cS hl)).trans (congrArg (cond · _ none) ((congrArg (Nat.beq _) hr.symm).trans (Nat.beq_refl _))))))
theorem YC {c:E}(h:Ev C (Option V) c (ρ++[.v x,.v y]) (.bool false) ρ1):pR C 2 [c] e ρ (.tup [x,y])=some none:=
 (show kE C glb c (Option V) (ρ++[.v x,.v y]) (fun t _=>dG t fun c=>cond c (kE C glb e _ (ρ++[.v x,.v y]) fun y _=>some (some y)) (some none))=_ from h _)
theorem YD {c:E}(h:Ev C (Option V) c (ρ++[.v x,.v y]) (.bool true) ρ1)(g:Ev C (Option V) e (ρ++[.v x,.v y]) z ρ2):pR C 2 [c] e ρ (.tup [x,y])=some (some z):=
 (show kE C glb c (Option V) (ρ++[.v x,.v y]) (fun t _=>dG t fun c=>cond c (kE C glb e _ (ρ++[.v x,.v y]) fun y _=>some (some y)) (some none))=_ from (h _).trans (g fun y _=>some (some y)))
theorem YE {c:E}(h:Ev C (Option V) c (ρ++[.v x]) (.bool false) ρ1):pR C 1 [c] e ρ x=some none:=
 (show kE C glb c (Option V) (ρ++[.v x]) (fun t _=>dG t fun c=>cond c (kE C glb e _ (ρ++[.v x]) fun y _=>some (some y)) (some none))=_ from h _)
theorem tV (g:Ev C (Option V) e (ρ++[.v x]) z ρ2):pR C 1 [] e ρ x=some (some z):=(show kE C glb e (Option V) (ρ++[.v x]) (fun y _=>some (some y))=_ from g _)
theorem UT {f:V→Option (Option V)}(h:f x=some none){w:List V}(g:xM f l=some w):xM f (x::l)=some w:=bD h g
theorem wD {f:V→Option (Option V)}(h:f x=some (some y)){w:List V}(g:xM f l=some w):xM f (x::l)=some (y::w):=bD h (bD g rfl)
theorem YF {f:V→Option (Option V)}:(∀x∈l,f x=some none)→xM f l=some []:=by
 induction l with
 |nil=>exact fun _=>rfl
 |cons x r ih=>exact fun h=>UT (h x (.head _)) (ih fun y hy=>h y (.tail _ hy))
theorem BF {i j:Nat}(h:Ev C β e ρ (.tup [x,y]) ρ1)(g:aW [i,j] [.v x,.v y] ρ1=ρ2):Es C β q (.unp [i,j] e) ρ ρ2:=fun κ=>(h _).trans (congrArg κ g)
theorem RD {n:Nat}{kvs w:List (V×V)}(h:Ev C β e ρ v ρ1)(p:aJ a=true)(ha:Ev C β a ρ1 x ρ1)(g:ρ1.at n=.d kvs)(hk:cC x=true)(hl:kvs.length≤1000)(hp:qP x v kvs=some w)(u:ρ1.set n (.d w)=ρ2):Es C β q (.setI n a e) ρ ρ2:=fun κ=>by
 refine (h _).trans ((congrArg (cond · _ none) p).trans ((ha _).trans ?_))
 rw [g]
 exact (congrArg (cond · _ none) hk).trans ((congrArg (cond · _ none) (cS hl)).trans (bD hp (congrArg κ u)))
theorem RE {n:Nat}{kvs:List (V×V)}{o:Option V}(p:(aJ a && aJ b)=true)(ha:Ev C β a ρ x ρ1)(hb:Ev C β b ρ y ρ2)(g:ρ.at n=.d kvs)(hk:cC x=true)(w:∀K:Option V→Option β,fW x K kvs=K o)(hz:o.getD y=z):Ev C β (.dget n a b) ρ z ρ:=fun k=>by
 refine (congrArg (cond · _ none) p).trans ((ha _).trans ((hb _).trans ?_))
 rw [g]
 exact (congrArg (cond · _ none) hk).trans ((w fun o=>k (o.getD y) ρ).trans (congrArg (k · ρ) hz))
theorem RF {n:Nat}{kvs r:List (V×V)}{o:Option V}(p:(aJ a && aJ b)=true)(ha:Ev C β a ρ x ρ1)(hb:Ev C β b ρ y ρ2)(g:ρ.at n=.d kvs)(hk:cC x=true)(hl:kvs.length≤1000)(w:∀K:Option V→Option β,fW x K kvs=K o)(hd:sS x kvs=some r)(hz:o.getD y=z){ρ3:Fm}(hr:ρ.set n (.d r)=ρ3):Ev C β (.dpop n a b) ρ z ρ3:=fun k=>by
 refine (congrArg (cond · _ none) p).trans ((ha _).trans ((hb _).trans ?_))
 rw [g]
 refine (congrArg (cond · _ none) hk).trans ((congrArg (cond · _ none) (cS hl)).trans ((w fun o=>(sS x kvs).bind fun w=>k (o.getD y) (ρ.set n (.d w))).trans (bD hd ?_)))
 exact hz▸hr▸rfl
theorem rU (h:l.length≤1000)(K:V→Option β):hJ .len (.lst l) K=K (.int (.ofNat l.length)):=congrArg (cond · _ none) (cS h)
theorem RG (h:l.length≤1000)(K:V→Option β):hJ .tuple (.lst l) K=K (.tup l):=congrArg (cond · _ none) (cS h)
end
noncomputable def gF (ps:List V)(s1 s2 s3 s4 s5 s6:aE):Fm:=[.v (.lst ps),s1,s2,s3,s4,s5,s6]
noncomputable def gT (n:Nat):S:=cK f_gathered_sum.body n
theorem EP {C:CF}{ps:List V}{s1 s2 s3 s4 s5 s6:aE}{m:List (V×Rat)}:(∀p∈m,C 73 [.v (qv p.2),.v p.1]=some (wn p.2 p.1,.un))→
  xM (pR C 2 [.cmp .ne (.subN (.var 8) 0) (.int 0)] (.call 73 [.var 8,.var 7]) (gF ps s1 s2 s3 s4 s5 s6)) (kH (em m))=some (bI m):=by
 induction m with
 |nil=>exact fun _=>rfl
 |cons a m ih=>
  refine Prod.rec (fun k x h=>?_) a
  have ih:=ih fun p hp=>h p (.tail _ hp)
  have c:∀{t:Bool},iW x.num 0=t→Ev C (Option V) (.cmp .ne (.subN (.var 8) 0) (.int 0)) (gF ps s1 s2 s3 s4 s5 s6++[.v k,.v (qv x)]) (.bool (not t)) (gF ps s1 s2 s3 s4 s5 s6++[.v k,.v (qv x)]):=fun h=>bQ (x:=.int x.num) (y:=.int 0) (fun _=>rfl) (fun _=>rfl) (JT h)
  by_cases e:x=0
  ·exact (oE (k:=k) (m:=m) e).symm▸UT (x:=.tup [k,qv x]) (YC (c (lW.trans (decide_eq_true e)))) ih
  ·exact (lX (k:=k) (m:=m) e).symm▸wD (x:=.tup [k,qv x]) (YD (c (lW.trans (decide_eq_false e))) (aS (bR (fun _=>rfl) fun _=>rfl) (h _ (.head _)))) ih
theorem EQ (m:List (V×Rat)):(kH (em m)).length=m.length:=by
 induction m with
 |nil=>rfl
 |cons a m ih=>exact congrArg (· +1) ih
theorem KK {m:List (V×Rat)}{n:Nat}(h:m.length≤n):(em m).length≤n:=(List.length_map (as:=m) _).symm▸h
theorem KL (o:Option Rat):(o.map qv).getD (.tup [.int 0,.int 1])=qv (o.getD 0):=by cases o<;>rfl
structure UU (d:Nat)(ps:List V)(L:List BE)(out:List V):Prop where
 flat:Cn (d+3) 74 [.v (.lst ps),.v (.str 2)]=some (.lst (L.map BE.v),.un)
 len:L.length≤10
 it:∀p∈L,Cn (d+3) 72 [.v p.v]=some (.tup [qv p.c,p.k],.un)∧cC p.k=true∧Bd p.c 1
 rest:∀p∈eR (hK L) cW,qY p.1
 tag:∀x∈bI (eR (hK L) cW),∃t r,x=.tup (.str t::r)∧t<27∧t≠2
 sort:Cn (d+3) 70 [.v (.lst (bI (eR (hK L) cW)))]=some (.lst out,.un)
 olen:out.length≤50
theorem adJ {C:CF}{ps:List V}{s1 s2 s3 s4 s5:aE}{l:List V}{κ:Fm→Option (V×aE)}(h:l.length≤60):aU C glb [gT 6,gT 7] _ (gF ps s1 s2 s3 s4 s5 (.v (.lst l))) κ (aC false)=some (hG l,.un):=by
 refine eS fun gG gH=>?_
 cases l with
 |nil=>exact gH rfl
 |cons x r=>cases r with
  |nil=>exact gH rfl
  |cons y r=>
   have hl:∀{β:Type},Ev C β (.bi1 .len (.var 6)) (gF ps s1 s2 s3 s4 s5 (.v (.lst (x::y::r)))) (.int (.ofNat (x::y::r).length)) (gF ps s1 s2 s3 s4 s5 (.v (.lst (x::y::r)))):=fun {_}=>kB (x:=.lst (x::y::r)) (fun _=>rfl) (rU (Nat.le_trans h (by decide)))
   refine gH ?_
   exact eE (mQ (bQ (y:=.int 0) hl (fun _=>rfl) (JS (t:=false) rfl)) iD)<|
    cR (gB (t:=false) rfl (bQ (y:=.int 1) hl (fun _=>rfl) (JS (t:=false) rfl)) (eD (bR (fun _=>rfl) (kB (x:=.lst (x::y::r)) (fun _=>rfl) (RG (Nat.le_trans h (by decide)))))))
theorem RH {C:CF}{β:Type}{q:V→Fm→Option β}{ps:List V}{m:List (V×Rat)}{p:BE}{s3 s4:aE}(h1:C 72 [.v p.v]=some (.tup [qv p.c,p.k],.un))(h2:cC p.k=true)(hm:∀p∈m,cC p.1=true)(hl:m.length≤10)(hr:C 2 [.v (qv ((cE m p.k).getD 0)),.v (qv p.c)]=some (qv ((cE m p.k).getD 0+p.c),.un)):
  mO C β q (nM (gT 1)) (gF ps (.d (em m)) (.v p.v) s3 s4 .un .un) (gF ps (.d (em (jW m p.k p.c))) (.v p.v) (.v (qv p.c)) (.v p.k) .un .un):=
 iE (BF (ρ2:=gF ps (.d (em m)) (.v p.v) (.v (qv p.c)) (.v p.k) .un .un) (aS (dX fun _=>rfl) h1) rfl)
  (RD (ρ1:=gF ps (.d (em m)) (.v p.v) (.v (qv p.c)) (.v p.k) .un .un) (aS (bR (RE (x:=p.k) (y:=.tup [.int 0,.int 1]) rfl (fun _=>rfl) (fun _=>rfl) rfl h2 (fun K=>wB h2 hm) (KL _)) fun _=>rfl) hr) rfl (fun _=>rfl) rfl h2 (KK (Nat.le_trans hl (by decide))) (QY h2 hm) rfl)
def adK (ps:List V)(n:Nat)(m:List (V×Rat))(ρ:Fm):Prop:=((∀p∈m,cC p.1=true∧Bd p.2 (10 - n))∧m.length+n≤10)∧∃s2 s3 s4,ρ=gF ps (.d (em m)) s2 s3 s4 .un .un
theorem KM {d:Nat}{ps:List V}{L:List BE}{out:List V}(h:UU d ps L out){q:V→Fm→Option (V×aE)}:
  ∃τ,adK ps 0 (hK L) τ∧Es (Cn (d+3)) (V×aE) q (gT 1) (gF ps (.d []) .un .un .un .un .un) τ:=
 gZ (val:=BE.v) (L:=L) (s:=[]) (ρ1:=gF ps (.d []) .un .un .un .un .un) (adK ps) (fun m p=>jW m p.k p.c) 7 rfl (yU (aS (bR (fun _=>rfl) fun _=>rfl) h.flat) rfl)
  (fun _ _ _ g=>jX g.2 fun _ _ _ e=>e▸rfl) ⟨⟨(fun p hp=>by cases hp),(Nat.zero_add _).symm▸h.len⟩,_,_,_,rfl⟩ fun p hp n m τ g=>by
   refine eS fun gG gH=>?_
   refine aF g.1 fun hm hl=>?_
   refine jX g.2 fun s2 s3 s4 e=>?_
   subst e
   refine eT (h.it p hp) fun h1 h2 h3=>?_
   have hb:=KJ (k:=p.k) hm
   refine gH ?_
   refine bM (gF ps (.d (em m)) (.v p.v) s3 s4 .un .un) _ ⟨fun _=>rfl,⟨⟨fun q hq=>?_,?_⟩,_,_,_,rfl⟩,RH h1 h2 (fun p hp=>(hm p hp).1) (by lia) (JX (d:=d) (hb.sm (eP (by decide))) (h3.sm (by decide)))⟩
   ·exact aF (KH h3 (Nat.le_refl 1) hm h2 q hq) fun a b=>⟨a,b.mono (lU (Nat.le_trans (Nat.le_add_left _ _) hl))⟩
   ·refine Nat.le_trans (Nat.add_le_add_right (KI m p.k p.c) n) ?_;rw [Nat.add_assoc,Nat.add_comm 1 n];exact hl
theorem KN (m:List (V×Rat))(k:V):(eR m k).length≤m.length:=
 dQ (M:=fun m=>(eR m k).length≤m.length) (Nat.le_refl _) (fun a x m ih=>YB (b:=V.beq a k) (fun e=>(KF (x:=x) (r:=m) e).symm▸Nat.le_succ _) fun e=>(KG (x:=x) (r:=m) e).symm▸Nat.succ_le_succ ih) m
theorem YG {d:Nat}{ps:List V}{L:List BE}{out:List V}(h:UU d ps L out):
  Cn (d+4) 75 [.v (.lst ps)]=some (hG (out++(if (cE (hK L) cW).getD 0≠0 then [nv ((cE (hK L) cW).getD 0)] else [])),.un):=by
 refine eS fun gG gH=>?_
 refine aD (KM h (q:=aC false)) fun τ g e1=>?_
 refine aF g.1 fun hm hl=>?_
 refine jX g.2 fun s2 s3 s4 e=>?_
 subst e
 have hm':∀p∈hK L,cC p.1=true:=fun p hp=>(hm p hp).1
 have hd:=KN (hK L) cW
 have hf:=wC (eR (hK L) cW)
 have e2:Es (Cn (d+3)) (V×aE) (aC false) (gT 2) (gF ps (.d (em (hK L))) s2 s3 s4 .un .un) (gF ps (.d (em (eR (hK L) cW))) s2 s3 s4 (.v (qv ((cE (hK L) cW).getD 0))) .un):=
  bU (RF (x:=cW) (y:=.tup [.int 0,.int 1]) (ρ3:=gF ps (.d (em (eR (hK L) cW))) s2 s3 s4 .un .un) rfl (fun _=>rfl) (fun _=>rfl) rfl rfl (KK (by lia)) (fun K=>wB rfl hm') (QZ rfl hm') (KL _) rfl) rfl
 have e3:Es (Cn (d+3)) (V×aE) (aC false) (gT 3) (gF ps (.d (em (eR (hK L) cW))) s2 s3 s4 (.v (qv ((cE (hK L) cW).getD 0))) .un) (gF ps (.v (.dct (em (eR (hK L) cW)))) s2 s3 s4 (.v (qv ((cE (hK L) cW).getD 0))) (.v (.lst (bI (eR (hK L) cW))))):=
  bU (lY (ρ1:=gF ps (.v (.dct (em (eR (hK L) cW)))) s2 s3 s4 (.v (qv ((cE (hK L) cW).getD 0))) .un) rfl (fun _=>rfl) (EP fun p hp=>adH (h.rest p hp)) (by rw [EQ];lia) rfl) rfl
 have e4:Es (Cn (d+3)) (V×aE) (aC false) (gT 4) (gF ps (.v (.dct (em (eR (hK L) cW)))) s2 s3 s4 (.v (qv ((cE (hK L) cW).getD 0))) (.v (.lst (bI (eR (hK L) cW))))) (gF ps (.v (.dct (em (eR (hK L) cW)))) s2 s3 s4 (.v (qv ((cE (hK L) cW).getD 0))) (.v (.lst (bI (eR (hK L) cW))))):=
  mQ (bQ (x:=.int 0) (y:=.int 0) (kB (x:=.lst []) (lY (l:=bI (eR (hK L) cW)) rfl (fun _=>rfl) (YF fun x hx=>by
   refine bN (h.tag x hx) fun t r e h1 h2=>?_
   subst e
   exact YE (bQ (x:=.str t) (y:=.str 2) (fun _=>rfl) (fun _=>rfl) fun K=>(pQ (k:=fun t=>K (.bool t)) h1 (by decide)).trans (congrArg (fun t=>K (.bool t)) (Bool.eq_false_iff.mpr fun e=>h2 (Nat.eq_of_beq_eq_true e))))) (by lia) rfl) fun _=>rfl) (fun _=>rfl) fun _=>rfl) iD
 have ho:=h.olen
 have e5:Es (Cn (d+3)) (V×aE) (aC false) (gT 5) (gF ps (.v (.dct (em (eR (hK L) cW)))) s2 s3 s4 (.v (qv ((cE (hK L) cW).getD 0))) (.v (.lst (bI (eR (hK L) cW))))) (gF ps (.v (.dct (em (eR (hK L) cW)))) s2 s3 s4 (.v (qv ((cE (hK L) cW).getD 0))) (.v (.lst (out++(if (cE (hK L) cW).getD 0≠0 then [nv ((cE (hK L) cW).getD 0)] else []))))):=by
  by_cases e:(cE (hK L) cW).getD 0=0
  ·refine (if_neg (not_not_intro e)).symm▸?_
   exact bU (dM (aS (dX fun _=>rfl) h.sort) (gB (t:=false) (u:=.lst []) rfl (bQ (x:=.int ((cE (hK L) cW).getD 0).num) (y:=.int 0) (fun _=>rfl) (fun _=>rfl) (JT (lW.trans (decide_eq_true e)))) (fun _=>rfl)) fun K=>congrArg (cond · _ none) (cS (show out.length+0≤jA from Nat.le_trans (show out.length≤50 from ho) (by decide)))) rfl
  ·refine (if_pos e).symm▸?_
   exact bU (dM (aS (dX fun _=>rfl) h.sort) (gB (t:=true) (u:=.lst [nv ((cE (hK L) cW).getD 0)]) rfl (bQ (x:=.int ((cE (hK L) cW).getD 0).num) (y:=.int 0) (fun _=>rfl) (fun _=>rfl) (JT (lW.trans (decide_eq_false e)))) (pO (dX (aS (dX fun _=>rfl) (jT (d:=d+1)))))) fun K=>congrArg (cond · _ none) (cS (show out.length+1≤jA from Nat.le_trans (show out.length+1≤51 by lia) (by decide)))) rfl
 refine gH ?_
 refine (XN.2 (Cn (d+3)) _).symm.trans (eE (s:=gT 0) (ρ1:=gF ps (.d []) .un .un .un .un .un) (fun _=>rfl) (eE e1 (eE e2 (eE e3 (eE e4 (eE e5 (adJ ?_)))))))
 rw [List.length_append]
 by_cases e:(cE (hK L) cW).getD 0=0
 ·rw [if_neg (not_not_intro e)];exact Nat.le_trans ho (by decide)
 ·rw [if_pos e];exact Nat.le_trans (Nat.succ_le_succ ho) (by decide)
theorem adL (c:Rat){kd:Nat}(hk:kd≠0):EO kd (nv c):=⟨0,_,rfl,by decide,fun q=>absurd q.symm hk⟩
theorem sm1:Sm 1:=by constructor<;>decide
theorem BG {d:Nat}{c:Rat}(hc:Sm c):Cn (d+3) 4 [.v (.tup [.int 1,.int 1]),.v (.tup [.int c.num,.int c.den])]=some (qv c,.un):=
 (JY (d:=d) sm1 hc).trans (by rw [Rat.one_mul])
noncomputable def sx:V:=.tup [.str 1,.str 17]
noncomputable def nk (k:Nat):V:=.tup [.str 0,.int k,.int 1]
noncomputable def nN:List V:=[sx,.tup [.str 2,.tup [sx,.tup [.str 0,.int 2,.int 1]]],.tup [.str 2,.tup [sx,.tup [.str 0,.int 1,.int 1]]],.tup [.str 2,.tup [sx,.tup [.str 0,.int 1,.int 2]]],
 .tup [.str 2,.tup [sx,.tup [.str 0,.int (-1),.int 2]]],.tup [.str 2,.tup [sx,.tup [.str 0,.int (-1),.int 1]]],.tup [.str 2,.tup [sx,.tup [.str 0,.int (-2),.int 1]]]]
noncomputable def rk (A:V)(k:Nat):V:=if k=1 then A else .tup [.str 4,A,nk k]
theorem KO {f:V→Option (Option V)}{x:V}{l:List V}:xM f (x::l)=(f x).bind fun o=>match o with
  |none=>xM f l
  |some y=>(xM f l).bind fun z=>some (y::z):=rfl
noncomputable def k3:List Nat:=[1,2,3]
noncomputable def fG (P s1 s2 s3 s4 s5:aE):Fm:=[P,s1,s2,s3,s4,s5,.un,.un,.un]
noncomputable def bG:List S:=[cK f_gathered_product.body 0,cK f_gathered_product.body 1]
noncomputable def bGr:List S:=f_gathered_product.body.tail.tail
noncomputable def FV (p q:Int):V:=.tup [.str 0,.int p,.int q]
noncomputable def mG (p q:Int):V:=.tup [.int p,.int q]
noncomputable def RJ (A:V)(k:Nat)(p q:Int)(r:V):Fm:=fG (.v (.lst [FV p q,rk A k])) (.v r) (.d [(A,nk k)]) (.v (rk A k)) (.v A) (.v (nk k))
theorem g1 (d:Nat)(β:Type)(p q:Int)(κ:Fm→Option β)(ψ:V→Fm→Option β):(nN.map fun A=>k3.map fun k=>aU (aT (d+25)) glb bG β (fG (.v (.lst [FV p q,rk A k])) .un .un .un .un .un) κ ψ)=
  nN.map fun A=>k3.map fun k=>(aT (d+25) 4 [.v (mG 1 1),.v (mG p q)]).bind fun r=>κ (RJ A k p q r.1):=by kernel_rfl
theorem g1z (d:Nat)(β:Type)(p q:Int)(κ:Fm→Option β)(ψ:V→Fm→Option β):aU (aT (d+25)) glb bG β (fG (.v (.lst [FV p q,cW])) .un .un .un .un .un) κ ψ=
  (aT (d+25) 4 [.v (mG 1 1),.v (mG p q)]).bind fun r=>(aT (d+25) 4 [.v r.1,.v (mG 1 1)]).bind fun r=>κ (fG (.v (.lst [FV p q,cW])) (.v r.1) (.d []) (.v cW) .un .un):=by kernel_rfl
noncomputable def rG (d:Nat)(F:Fm):Option (V×aE):=aU (aT (d+25)) glb bGr _ F (aC false .none) (aC false)
theorem g2 (d n:Nat)(q:Int):(nN.map fun A=>k3.map fun k=>rG d (RJ A k (.ofNat (n+1)) q (mG (.ofNat (n+1)) q)))=nN.map fun A=>k3.map fun k=>(aT (d+25) 73 [.v (mG (.ofNat (n+1)) q),.v (rk A k)]).bind fun r=>some (r.1,.un):=by kernel_rfl
theorem g3 (d n:Nat)(q:Int):(nN.map fun A=>k3.map fun k=>rG d (RJ A k (.negSucc n) q (mG (.negSucc n) q)))=nN.map fun A=>k3.map fun k=>(aT (d+25) 73 [.v (mG (.negSucc n) q),.v (rk A k)]).bind fun r=>some (r.1,.un):=by kernel_rfl
theorem g4 (d:Nat)(q:Int):(nN.map fun A=>k3.map fun k=>rG d (RJ A k 0 q (mG 0 q)))=nN.map fun A=>k3.map fun k=>some (nv 0,.un):=by kernel_rfl
theorem g2z (d n:Nat)(q:Int):rG d (fG (.v (.lst [FV (.ofNat (n+1)) q,cW])) (.v (mG (.ofNat (n+1)) q)) (.d []) (.v cW) .un .un)=some (FV (.ofNat (n+1)) q,.un):=by kernel_rfl
theorem g3z (d n:Nat)(q:Int):rG d (fG (.v (.lst [FV (.negSucc n) q,cW])) (.v (mG (.negSucc n) q)) (.d []) (.v cW) .un .un)=some (FV (.negSucc n) q,.un):=by kernel_rfl
theorem g4z (d:Nat)(q:Int):rG d (fG (.v (.lst [FV 0 q,cW])) (.v (mG 0 q)) (.d []) (.v cW) .un .un)=some (nv 0,.un):=by kernel_rfl
theorem KP:(nN.map fun A=>k3.map fun k=>(cC (rk A k),gI 20 (rk A k),iH 20 (rk A k) cW))=nN.map fun A=>k3.map fun k=>(true,true,some false):=by kernel_rfl
noncomputable def tW (v:V):Nat:=match v with
 |.tup l=>match l with
  |.str t::_=>t
  |_=>0
 |_=>0
noncomputable def UV (v:V):List V:=match v with
 |.tup l=>l.tail
 |_=>[]
theorem RK:(nN.map fun A=>k3.map fun k=>(rk A k,Nat.blt (tW (rk A k)) 27,Nat.beq (tW (rk A k)) 0,Nat.beq (tW (rk A k)) 3))=nN.map fun A=>k3.map fun k=>(.tup (.str (tW (rk A k))::UV (rk A k)),true,false,false):=by kernel_rfl
theorem yZ {k:Nat}(h1:1≤k)(h3:k≤3):k∈k3:=by
 rcases (by lia:k=1∨k=2∨k=3) with rfl|rfl|rfl
 ·exact .head _
 ·exact .tail _ (.head _)
 ·exact .tail _ (.tail _ (.head _))
theorem ER {α:Type}{f g:V→Nat→α}(h:(nN.map fun A=>k3.map fun k=>f A k)=nN.map fun A=>k3.map fun k=>g A k){A:V}{k:Nat}(hA:A∈nN)(hk:k∈k3):f A k=g A k:=List.map_inj_left.mp (List.map_inj_left.mp h A hA) k hk
theorem BH {A:V}{k:Nat}(hA:A∈nN)(hk:k∈k3):qY (rk A k):=by
 have h:=ER (f:=fun A k=>(cC (rk A k),gI 20 (rk A k),iH 20 (rk A k) cW)) (g:=fun _ _=>(true,true,some false)) KP hA hk
 have t:=ER (f:=fun A k=>(rk A k,Nat.blt (tW (rk A k)) 27,Nat.beq (tW (rk A k)) 0,Nat.beq (tW (rk A k)) 3)) (g:=fun A k=>(.tup (.str (tW (rk A k))::UV (rk A k)),true,false,false)) RK hA hk
 simp only [Prod.mk.injEq] at h t
 exact ⟨h.1,h.2.1,h.2.2,_,_,t.1,Nat.blt_eq.mp t.2.1,fun e=>(nomatch (e▸t.2.2.1:Nat.beq 0 0=false)),fun e=>(nomatch (e▸t.2.2.2:Nat.beq 3 3=false))⟩
theorem RL {d k:Nat}{A:V}{c:Rat}(hA:A∈nN)(hk:k∈k3)(hc:Sm c):Cn (d+27) 77 [.v (.lst [nv c,rk A k])]=some (wn c (rk A k),.un):=by
 have h1:(aT (d+25) 4 [.v (mG 1 1),.v (mG c.num c.den)])=some (qv c,.un):=BG (d:=d+23) hc
 have hw:(aT (d+25) 73 [.v (qv c),.v (rk A k)])=some (wn c (rk A k),.un):=adH (d:=d+23) (BH hA hk)
 refine (QP.2 (aT (d+25)) _).symm.trans ?_
 refine (ER (f:=fun A k=>aU (aT (d+25)) glb bG _ (fG (.v (.lst [FV c.num c.den,rk A k])) .un .un .un .un .un) (fun F=>rG d F) (aC false)) (g:=fun A k=>(aT (d+25) 4 [.v (mG 1 1),.v (mG c.num c.den)]).bind fun r=>rG d (RJ A k c.num c.den r.1)) (g1 d _ c.num c.den _ _) hA hk).trans ?_
 refine eG h1 ?_
 by_cases c0:c=0
 ·subst c0
  rw [wn,if_pos rfl]
  exact ER (f:=fun A k=>rG d (RJ A k 0 1 (mG 0 1))) (g:=fun _ _=>some (nv 0,.un)) (g4 d 1) hA hk
 ·show rG d (RJ A k c.num c.den (mG c.num c.den))=_
  have hn:c.num≠0:=fun e=>c0 (Rat.num_eq_zero.mp e)
  replace hw:(aT (d+25) 73 [.v (mG c.num c.den),.v (rk A k)])=some (wn c (rk A k),.un):=hw
  generalize (c.den:Int)=q at hw ⊢
  generalize c.num=p at hn hw ⊢
  cases p with
  |ofNat n=>cases n with
   |zero=>exact absurd rfl hn
   |succ n=>exact (ER (f:=fun A k=>rG d (RJ A k (.ofNat (n+1)) q (mG (.ofNat (n+1)) q))) (g:=fun A k=>(aT (d+25) 73 [.v (mG (.ofNat (n+1)) q),.v (rk A k)]).bind fun r=>some (r.1,.un)) (g2 d n q) hA hk).trans (eG hw rfl)
  |negSucc n=>exact (ER (f:=fun A k=>rG d (RJ A k (.negSucc n) q (mG (.negSucc n) q))) (g:=fun A k=>(aT (d+25) 73 [.v (mG (.negSucc n) q),.v (rk A k)]).bind fun r=>some (r.1,.un)) (g3 d n q) hA hk).trans (eG hw rfl)
theorem KQ {d:Nat}{c:Rat}(hc:Sm c):Cn (d+27) 77 [.v (.lst [nv c,cW])]=some (nv c,.un):=by
 have h1:(aT (d+25) 4 [.v (mG 1 1),.v (mG c.num c.den)])=some (qv c,.un):=BG (d:=d+23) hc
 have h2:(aT (d+25) 4 [.v (qv c),.v (mG 1 1)])=some (qv c,.un):=(JY (d:=d+23) (s:=1) hc sm1).trans (by rw [Rat.mul_one])
 refine (QP.2 (aT (d+25)) _).symm.trans ?_
 refine (g1z d _ c.num c.den (fun F=>rG d F) (aC false)).trans (eG h1 (eG h2 ?_))
 show rG d (fG (.v (.lst [FV c.num c.den,cW])) (.v (mG c.num c.den)) (.d []) (.v cW) .un .un)=some (FV c.num c.den,.un)
 by_cases c0:c=0
 ·subst c0;exact g4z d 1
 ·have hn:c.num≠0:=fun e=>c0 (Rat.num_eq_zero.mp e)
  generalize (c.den:Int)=q
  generalize c.num=p at hn ⊢
  cases p with
  |ofNat n=>cases n with
   |zero=>exact absurd rfl hn
   |succ n=>exact g2z d n q
  |negSucc n=>exact g3z d n q
theorem KR {d:Nat}{c:Rat}(hc:Sm c):Cn (d+4) 79 [.v (nv c)]=some (nv c,.un):=by
 refine (show JM.1 (Cn (d+3)) _=_ from ?_)
 refine (?_:(Cn (d+3) 1 [.v (.int c.num),.v (.int c.den)]).bind _=_)
 rw [show Cn (d+3) 1 [.v (.int c.num),.v (.int c.den)]=_ from UP (d:=d+1) hc,aB]
 exact eG (jT (d:=d+1)) rfl
noncomputable def mono (A:V)(c:Rat)(k:Nat):V:=.tup [.str 3,.tup [nv c,.tup [.str 4,A,nk k]]]
noncomputable def pk (A:V)(c:Rat)(k:Nat):V:=if k=0 then nv c else wn c (rk A k)
theorem wE {C:CF}{β:Type}{q:V→Fm→Option β}{x:V}:mO C β q (f_simplify.body.take 6) [.v (.tup [.str 3,x]),.un,.un] [.v (.tup [.str 3,x]),.v (.str 3),.un]∧mO C β q (f_simplify.body.take 6) [.v (.tup [.str 2,x]),.un,.un] [.v (.tup [.str 2,x]),.v (.str 2),.un]:=⟨fun _=>rfl,fun _=>rfl⟩
theorem rV {d:Nat}{A:V}{c:Rat}{k:Nat}(hA:A∈nN)(hk:k≤3)(hc:Sm c):Cn (d+30) 79 [.v (mono A c k)]=some (pk A c k,.un):=by
 have hY:Cn (d+29) 79 [.v (.tup [.str 4,A,nk k])]=some (if k=0 then cW else rk A k,.un):=by
  have all:(nN.map fun A=>(List.range 4).map fun k=>aT (d+28) 79 [.v (.tup [.str 4,A,nk k])])=nN.map fun A=>(List.range 4).map fun k=>some (if k=0 then cW else rk A k,.un):=by kernel_rfl
  exact List.map_inj_left.mp (List.map_inj_left.mp all A hA) k (List.mem_range.mpr (Nat.lt_succ_of_le hk))
 have h77:Cn (d+29) 77 [.v (.lst [nv c,if k=0 then cW else rk A k])]=some (pk A c k,.un):=by
  by_cases k0:k=0
  ·subst k0;exact KQ (d:=d+2) hc
  ·rw [if_neg k0,pk,if_neg k0];exact RL (d:=d+2) hA (yZ (Nat.pos_of_ne_zero k0) hk) hc
 refine (JM.2 (Cn (d+29)) _).symm.trans ((lT (b:=f_simplify.body.drop 6) wE.1).trans ?_)
 exact eE (bU (lY (l:=[nv c,.tup [.str 4,A,nk k]]) rfl (yU (v:=.tup [nv c,.tup [.str 4,A,nk k]]) (fun _=>rfl) rfl) (wD (tV (aS (dX fun _=>rfl) (KR (d:=d+25) hc))) (wD (tV (aS (dX fun _=>rfl) hY)) rfl)) (show 2≤1000 by decide) rfl) rfl)<|
  eE (s:=cK f_simplify.body 7) (ρ1:=[.v (mono A c k),.v (.str 3),.v (.lst [nv c,if k=0 then cW else rk A k])]) (fun _=>rfl)<|
  cR (r:=[]) (κ:=aC false .none) (q:=aC false) (ρ1:=[.v (mono A c k),.v (.str 3),.v (.lst [nv c,if k=0 then cW else rk A k])]) (gB (t:=true) rfl (fun _=>rfl) (aS (dX fun _=>rfl) h77))
noncomputable def nG:List Rat:=[0,2,1,mkRat 1 2,mkRat (-1) 2, -1, -2]
noncomputable def eZ (a:Rat):V:=if a=0 then sx else .tup [.str 2,.tup [sx,nv a]]
theorem oF {a:Rat}(h:a∈nG):eZ a∈nN:=by
 have:∀a∈nG,∃i:Nat,nN[i]? =some (eZ a):=by
  intro a ha
  simp only [nG,List.mem_cons,List.not_mem_nil,or_false] at ha
  rcases ha with rfl|rfl|rfl|rfl|rfl|rfl|rfl
  ·exact ⟨0,by kernel_rfl⟩
  ·exact ⟨1,by kernel_rfl⟩
  ·exact ⟨2,by kernel_rfl⟩
  ·exact ⟨3,by kernel_rfl⟩
  ·exact ⟨4,by kernel_rfl⟩
  ·exact ⟨5,by kernel_rfl⟩
  ·exact ⟨6,by kernel_rfl⟩
 obtain ⟨i,hi⟩:=this a h
 exact List.mem_of_getElem? hi
def pS (a:Rat)(k:Nat)(c:Rat):Prop:=k=1∧c=1∧a≠0
noncomputable instance (a:Rat) (k:Nat) (c:Rat):Decidable (pS a k c):=by unfold pS;exact inferInstance
noncomputable def eH (a:Rat)(k:Nat)(c:Rat):Rat:=if c=0 then 0 else if pS a k c then a else 0
noncomputable def lZ (a:Rat)(k:Nat)(c:Rat):List (V×Rat):=if c=0 then [] else if pS a k c then [(sx,1)] else [(rk (eZ a) k,c)]
noncomputable def FW (a:Rat)(k:Nat)(c:Rat):List BE:=if c=0 then [⟨0,cW,nv 0⟩] else if pS a k c then [⟨1,sx,sx⟩,⟨a,cW,nv a⟩] else [⟨c,rk (eZ a) k,wn c (rk (eZ a) k)⟩]
noncomputable def mU (a:Rat):Nat→List Rat→List BE
 |_,[]=>[]
 |k,c::cs=>FW a k c++mU a (k+1) cs
noncomputable def gC (a:Rat):Nat→List Rat→List (V×Rat)
 |_,[]=>[]
 |k,c::cs=>lZ a k c++gC a (k+1) cs
noncomputable def pU (a:Rat):Nat→List Rat→Rat→Rat
 |_,[],N=>N
 |k,c::cs,N=>pU a (k+1) cs (N+eH a k c)
def pV (a:Rat)(k:Nat)(v:V):Prop:=(v=sx∧2≤k)∨∃j,1≤j∧j<k∧v=rk (eZ a) j
theorem BI {a:Rat}(h:a∈nG):∀k,1≤k→k≤3→V.beq cW (rk (eZ a) k)=false∧(2≤k→V.beq sx (rk (eZ a) k)=false)∧∀j,1≤j→j<k→V.beq (rk (eZ a) j) (rk (eZ a) k)=false:=by
 have:∀a∈nG,V.beq cW (rk (eZ a) 1)=false∧V.beq cW (rk (eZ a) 2)=false∧V.beq cW (rk (eZ a) 3)=false∧V.beq sx (rk (eZ a) 2)=false∧V.beq sx (rk (eZ a) 3)=false∧
   V.beq (rk (eZ a) 1) (rk (eZ a) 2)=false∧V.beq (rk (eZ a) 1) (rk (eZ a) 3)=false∧V.beq (rk (eZ a) 2) (rk (eZ a) 3)=false:=by decide+kernel
 refine aaV (this a h) fun h1 h2 h3 h4 h5 h6 h7 h8=>?_
 intro k k1 k3
 have hk:k=1∨k=2∨k=3:=by lia
 rcases hk with rfl|rfl|rfl
 ·exact ⟨h1,fun q=>absurd q (by decide),fun j j1 j2=>by lia⟩
 ·refine ⟨h2,fun _=>h4,fun j j1 j2=>?_⟩
  obtain rfl:j=1:=by lia
  exact h6
 ·refine ⟨h3,fun _=>h5,fun j j1 j2=>?_⟩
  have:j=1∨j=2:=by lia
  rcases this with rfl|rfl
  ·exact h7
  ·exact h8
theorem OG {a c:Rat}{k:Nat}{M:Prop}(h0:c=0→M)(h1:c≠0→pS a k c→M)(h2:c≠0→¬pS a k c→M):M:=(Classical.em (c=0)).elim h0 fun e=>(Classical.em (pS a k c)).elim (h1 e) (h2 e)
theorem KS {m:List (V×Rat)}{k:V}{c:Rat}:(∀p∈m,V.beq p.1 k=false)→jW m k c=m++[(k,c)]:=
 dQ (M:=fun m=>(∀p∈m,V.beq p.1 k=false)→jW m k c=m++[(k,c)]) (fun _=>rfl) (fun a x m ih h=>(tS (h _ (.head _))).trans (congrArg ((a,x):: ·) (ih fun p hp=>h p (.tail _ hp)))) m
theorem wF {a:Rat}{k:Nat}{v:V}(h:pV a k v):pV a (k+1) v:=h.elim (fun g=>.inl ⟨g.1,Nat.le_succ_of_le g.2⟩) fun g=>eM g fun j q1 q2 e=>.inr ⟨j,q1,Nat.lt_succ_of_lt q2,e⟩
theorem RN {a:Rat}{v:V}(h:pV a 1 v):False:=h.elim (fun g=>absurd g.2 (by decide)) fun g=>eM g fun j q1 q2 _=>absurd q2 (Nat.not_lt.mpr q1)
theorem KT {a:Rat}(ha:a∈nG){k:Nat}(k1:1≤k)(k3:k≤3){v:V}(h:pV a k v):V.beq v (rk (eZ a) k)=false:=
 eT (BI ha k k1 k3) fun _ h2 h3=>h.elim (fun g=>g.1▸h2 g.2) fun g=>eM g fun j q1 q2 e=>e▸h3 j q1 q2
noncomputable def KU (m:List (V×Rat))(p:BE):List (V×Rat):=jW m p.k p.c
theorem RO {a:Rat}(ha:a∈nG){k:Nat}{c N:Rat}{R:List (V×Rat)}(k1:1≤k)(k3:k≤3)(hR:∀p∈R,pV a k p.1):
  (FW a k c).foldl KU ((cW,N)::R)=(cW,N+eH a k c)::(R++lZ a k c)∧∀p∈R++lZ a k c,pV a (k+1) p.1:=by
 unfold FW eH lZ
 refine OG (a:=a) (k:=k) (c:=c) (fun c0=>?_) (fun c0 s=>?_) (fun c0 s=>?_)
 ·rw [if_pos c0,if_pos c0,if_pos c0,List.append_nil]
  exact ⟨rfl,fun p hp=>wF (hR p hp)⟩
 ·rw [if_neg c0,if_neg c0,if_neg c0,if_pos s,if_pos s,if_pos s]
  cases R with
  |nil=>exact ⟨rfl,fun p hp=>List.eq_of_mem_singleton hp▸.inl ⟨rfl,Nat.succ_le_succ k1⟩⟩
  |cons p R=>exact (RN (s.1▸hR p (.head _))).elim
 ·rw [if_neg c0,if_neg c0,if_neg c0,if_neg s,if_neg s,if_neg s]
  refine ⟨(KS fun p hp=>?_).trans ?_,fun p hp=>?_⟩
  ·cases hp with
   |head=>exact (BI ha k k1 k3).1
   |tail _ hp=>exact KT ha k1 k3 (hR p hp)
  ·rw [Rat.add_zero];rfl
  ·exact (List.mem_append.mp hp).elim (fun hp=>wF (hR p hp)) fun hp=>List.eq_of_mem_singleton hp▸.inr ⟨k,k1,Nat.lt_succ_self k,rfl⟩
theorem KV {a:Rat}(ha:a∈nG){cs:List Rat}:∀{k:Nat} {N:Rat} {R:List (V×Rat)},1≤k→k+cs.length≤4→(∀p∈R,pV a k p.1)→
  (mU a k cs).foldl KU ((cW,N)::R)=(cW,pU a k cs N)::(R++gC a k cs):=by
 induction cs with
 |nil=>exact fun {k N R} _ _ _=>congrArg ((cW,N):: ·) (List.append_nil R).symm
 |cons c cs ih=>
  intro k N R k1 hk hR
  replace hk:k+(cs.length+1)≤4:=hk
  refine aF (RO ha (c:=c) (N:=N) k1 (by lia) hR) fun e h=>?_
  refine List.foldl_append.trans ((congrArg (fun m=>(mU a (k+1) cs).foldl KU m) e).trans ((ih (by lia) (by lia) h).trans ?_))
  exact congrArg ((cW,pU a (k+1) cs (N+eH a k c)):: ·) (List.append_assoc _ _ _)
theorem RP {a:Rat}(ha:a∈nG){c0:Rat}{cs:List Rat}(h:cs.length≤3):hK (⟨c0,cW,nv c0⟩::mU a 1 cs)=(cW,pU a 1 cs c0)::gC a 1 cs:=by
 have:=KV ha (cs:=cs) (k:=1) (N:=c0) (R:=[]) (Nat.le_refl _) (by lia) (fun p hp=>by cases hp)
 exact this
theorem RQ {a:Rat}{cs:List Rat}:∀{k:Nat} {N:Rat},2≤k→pU a k cs N=N:=by
 induction cs with
 |nil=>exact fun _=>rfl
 |cons c cs ih=>
  intro k N hk
  have:eH a k c=0:=by
   unfold eH
   exact OG (a:=a) (k:=k) (c:=c) (fun c0=>if_pos c0) (fun _ s=>absurd (s.1▸hk) (by decide)) fun c0 s=>(if_neg c0).trans (if_neg s)
  exact (ih (k:=k+1) (N:=N+eH a k c) (Nat.le_succ_of_le hk)).trans (this.symm▸Rat.add_zero N)
noncomputable def kU (p q:Int):V:=.tup [.str 0,.int p,.int q]
noncomputable def sh (A:V)(k s:Nat)(p q:Int):List V:=match s with
 |0=>[]
 |1=>[rk A k]
 |2=>[.tup [.str 3,.tup [kU p q,rk A k]]]
 |_=>[sx]
noncomputable def c4:List Nat:=[0,1,2,3]
noncomputable def c3:List Nat:=[0,1,2]
noncomputable def shB (A:V)(x:Nat)(a b c:List V):List V:=if x=3∧tW A=2 then a++(c++b) else c++(b++a)
theorem KW (d:Nat)(p1 q1 p2 q2 p3 q3:Int):(nN.map fun A=>c4.map fun x=>c3.map fun y=>c3.map fun z=>aT (d+30) 70 [.v (.lst (sh A 1 x p1 q1++sh A 2 y p2 q2++sh A 3 z p3 q3))])=nN.map fun A=>c4.map fun x=>c3.map fun y=>c3.map fun z=>some (.lst (shB A x (sh A 1 x p1 q1) (sh A 2 y p2 q2) (sh A 3 z p3 q3)),.un):=by kernel_rfl
noncomputable def mH (a:Rat)(k:Nat)(c:Rat):List V:=if c=0 then [] else if pS a k c then [sx] else [wn c (rk (eZ a) k)]
noncomputable def UW (a:Rat)(k:Nat)(c:Rat):Nat:=if c=0 then 0 else if pS a k c then 3 else if c=1 then 1 else 2
theorem zA {a:Rat}{k:Nat}{c:Rat}:mH a k c=sh (eZ a) k (UW a k c) c.num c.den:=by
 unfold mH UW
 refine OG (a:=a) (k:=k) (c:=c) (fun c0=>?_) (fun c0 s=>?_) (fun c0 s=>?_)
 ·rw [if_pos c0,if_pos c0];rfl
 ·rw [if_neg c0,if_neg c0,if_pos s,if_pos s];rfl
 ·rw [if_neg c0,if_neg c0,if_neg s,if_neg s,wn,if_neg c0]
  by_cases e:c=1
  ·rw [if_pos e,if_pos e];rfl
  ·rw [if_neg e,if_neg e];rfl
theorem ET {m n:List (V×Rat)}:bI (m++n)=bI m++bI n:=
 dQ (M:=fun m=>bI (m++n)=bI m++bI n) rfl (fun k x m ih=>(Classical.em (x=0)).elim (fun e=>(oE (m:=m++n) e).trans (ih.trans (congrArg (· ++bI n) (oE (m:=m) e).symm)))
  fun e=>(lX (m:=m++n) e).trans ((congrArg (wn x k:: ·) ih).trans (congrArg (· ++bI n) (lX (m:=m) e).symm))) m
theorem EU {a:Rat}{k:Nat}{c:Rat}:bI (lZ a k c)=mH a k c:=by
 unfold lZ mH
 refine OG (a:=a) (k:=k) (c:=c) (fun c0=>?_) (fun c0 s=>?_) (fun c0 s=>?_)
 ·rw [if_pos c0,if_pos c0];rfl
 ·rw [if_neg c0,if_neg c0,if_pos s,if_pos s];rfl
 ·rw [if_neg c0,if_neg c0,if_neg s,if_neg s];exact lX c0
theorem gD {a:Rat}{k:Nat}:mH a k 0=[]:=by unfold mH;rw [if_pos rfl]
theorem rW {a:Rat}{cs:List Rat}(h:cs.length≤3):bI (gC a 1 cs)=mH a 1 (cs.getD 0 0)++mH a 2 (cs.getD 1 0)++mH a 3 (cs.getD 2 0):=by
 have z:∀{k:Nat},mH a k 0=[]:=gD
 have e:∀(k:Nat) (c:Rat) (cs:List Rat),bI (gC a k (c::cs))=mH a k c++bI (gC a (k+1) cs):=fun k c cs=>ET.trans (congrArg (· ++bI (gC a (k+1) cs)) EU)
 have n:∀k,bI (gC a k [])=[]:=fun _=>rfl
 cases cs with
 |nil=>exact (z (k:=1)).symm▸(z (k:=2)).symm▸(z (k:=3)).symm▸rfl
 |cons b cs=>cases cs with
  |nil=>rw [e,n];exact (z (k:=2)).symm▸(z (k:=3)).symm▸(List.append_nil _).symm
  |cons c cs=>cases cs with
   |nil=>rw [e,e,n,List.append_nil];exact (z (k:=3)).symm▸(List.append_nil _).symm
   |cons f cs=>cases cs with
    |nil=>rw [e,e,e,n,List.append_nil];exact (List.append_assoc _ _ _).symm
    |cons g cs=>exact absurd (Nat.le_of_succ_le_succ (Nat.le_of_succ_le_succ (Nat.le_of_succ_le_succ h))) (Nat.not_succ_le_zero _)
noncomputable def mB (a c1 c2 c3:Rat):List V:=if pS a 1 c1 then mH a 1 c1++(mH a 3 c3++mH a 2 c2) else mH a 3 c3++(mH a 2 c2++mH a 1 c1)
theorem zB {a:Rat}{k:Nat}{c:Rat}:UW a k c∈c4∧(2≤k→UW a k c∈c3)∧(UW a k c=3↔c≠0∧pS a k c):=by
 unfold UW
 by_cases h:c=0
 ·refine (Eq.symm (if_pos h))▸?_;exact ⟨by decide+kernel,fun _=>by decide+kernel,⟨nofun,fun q=>absurd h q.1⟩⟩
 ·refine (Eq.symm (if_neg h))▸?_
  by_cases g:pS a k c
  ·refine (Eq.symm (if_pos g))▸?_;exact ⟨by decide+kernel,fun hk=>absurd g.1 (fun e=>by rw [e] at hk;exact absurd hk (by decide)),⟨fun _=>⟨h,g⟩,fun _=>rfl⟩⟩
  ·refine (Eq.symm (if_neg g))▸?_
   by_cases e:c=1
   ·refine (Eq.symm (if_pos e))▸?_;exact ⟨by decide+kernel,fun _=>by decide+kernel,⟨nofun,fun q=>absurd q.2 g⟩⟩
   ·refine (Eq.symm (if_neg e))▸?_;exact ⟨by decide+kernel,fun _=>by decide+kernel,⟨nofun,fun q=>absurd q.2 g⟩⟩
theorem KX {a c1 c2 c3:Rat}(ha:a∈nG){d:Nat}:Cn (d+31) 70 [.v (.lst (mH a 1 c1++mH a 2 c2++mH a 3 c3))]=some (.lst (mB a c1 c2 c3),.un):=by
 refine eT (zB (a:=a) (k:=1) (c:=c1)) fun m1 _ k1=>?_
 have h:=List.map_inj_left.mp (List.map_inj_left.mp (List.map_inj_left.mp (List.map_inj_left.mp (KW d c1.num c1.den c2.num c2.den c3.num c3.den) _ (oF ha)) _ m1) _ (zB.2.1 (Nat.le_refl 2):UW a 2 c2∈_)) _ (zB.2.1 (by decide):UW a 3 c3∈_)
 rw [←zA, ←zA, ←zA] at h
 refine (show Cn (d+31) 70 _=_ from h).trans ?_
 unfold shB mB
 by_cases s:pS a 1 c1
 ·have c0:c1≠0:=fun e=>by have:=s.2.1;rw [e] at this;exact absurd this (by decide)
  rw [if_pos s,if_pos ⟨k1.mpr ⟨c0,s⟩,by rw [eZ,if_neg s.2.2];rfl⟩]
 ·rw [if_neg s,if_neg fun q=>s (k1.mp q.1).2]
theorem BJ {a:Rat}(ha:a∈nG){k:Nat}(k1:1≤k)(k3:k≤3):qY (rk (eZ a) k):=BH (oF ha) (yZ k1 k3)
theorem BK:qY sx:=⟨rfl,rfl,rfl,1,_,rfl,by decide,by decide,by decide⟩
theorem KY {a:Rat}(ha:a∈nG){k:Nat}{c:Rat}(k1:1≤k)(k3:k≤3):∀p∈lZ a k c,qY p.1:=by
 unfold lZ
 refine OG (a:=a) (k:=k) (c:=c) (fun c0=>?_) (fun c0 s=>?_) (fun c0 s=>?_)
 ·rw [if_pos c0];exact fun _ hp=>(List.not_mem_nil hp).elim
 ·rw [if_neg c0,if_pos s];exact fun p hp=>List.eq_of_mem_singleton hp▸BK
 ·rw [if_neg c0,if_neg s];exact fun p hp=>List.eq_of_mem_singleton hp▸BJ ha k1 k3
theorem zC {a:Rat}(ha:a∈nG){cs:List Rat}:∀{k:Nat},1≤k→k+cs.length≤4→∀p∈gC a k cs,qY p.1:=by
 induction cs with
 |nil=>exact fun _ _ _ hp=>(List.not_mem_nil hp).elim
 |cons c cs ih=>
  intro k k1 hk p hp
  replace hk:k+(cs.length+1)≤4:=hk
  exact (List.mem_append.mp (show p∈lZ a k c++gC a (k+1) cs from hp)).elim (KY ha k1 (by lia) p) (ih (by lia) (by lia) p)
theorem BM {a:Rat}{k:Nat}{c:Rat}:∀x∈mH a k c,∃t r,x=.tup (.str t::r)∧t<27∧t≠2:=by
 unfold mH
 refine OG (a:=a) (k:=k) (c:=c) (fun c0=>?_) (fun c0 s=>?_) (fun c0 s=>?_)
 ·rw [if_pos c0];exact fun _ hp=>(List.not_mem_nil hp).elim
 ·rw [if_neg c0,if_pos s];exact fun p hp=>List.eq_of_mem_singleton hp▸bM 1 _ ⟨rfl,by decide,by decide⟩
 ·rw [if_neg c0,if_neg s,wn,if_neg c0]
  by_cases c1:c=1
  ·rw [if_pos c1,rk]
   by_cases k1:k=1
   ·rw [if_pos k1,eZ,if_pos (Classical.byContradiction fun h=>s ⟨k1,c1,h⟩)]
    exact fun p hp=>List.eq_of_mem_singleton hp▸bM 1 _ ⟨rfl,by decide,by decide⟩
   ·rw [if_neg k1]
    exact fun p hp=>List.eq_of_mem_singleton hp▸bM 4 _ ⟨rfl,by decide,by decide⟩
  ·rw [if_neg c1]
   exact fun p hp=>List.eq_of_mem_singleton hp▸bM 3 _ ⟨rfl,by decide,by decide⟩
noncomputable def dT (A:V):Nat→List Rat→List V
 |_,[]=>[]
 |k,c::cs=>mono A c k::dT A (k+1) cs
noncomputable def tX (A:V):Nat→List Rat→List V
 |_,[]=>[]
 |k,c::cs=>pk A c k::tX A (k+1) cs
noncomputable def dR (a:Rat)(cs:List Rat):V:=hG (mB a (cs.getD 1 0) (cs.getD 2 0) (cs.getD 3 0)++(if cs.getD 0 0+eH a 1 (cs.getD 1 0)≠0 then [nv (cs.getD 0 0+eH a 1 (cs.getD 1 0))] else []))
theorem adM {a:Rat}{k:Nat}(h:k=1→a=0):EO 2 (rk (eZ a) k)∧fl 2 (rk (eZ a) k)=[rk (eZ a) k]:=by
 unfold rk
 by_cases kk:k=1
 ·rw [if_pos kk,eZ,if_pos (h kk)];exact ⟨⟨1,_,rfl,by decide,fun q=>absurd q (by decide)⟩,rfl⟩
 ·rw [if_neg kk];exact ⟨⟨4,_,rfl,by decide,fun q=>absurd q (by decide)⟩,XZ (by decide) _⟩
theorem adN {a:Rat}{k:Nat}{c:Rat}(k1:1≤k):EO 2 (pk (eZ a) c k)∧fl 2 (pk (eZ a) c k)=(FW a k c).map BE.v:=by
 unfold pk FW wn
 rw [if_neg (Nat.pos_iff_ne_zero.mp k1)]
 refine OG (a:=a) (k:=k) (c:=c) (fun c0=>?_) (fun c0 s=>?_) (fun c0 s=>?_)
 ·rw [if_pos c0,if_pos c0];exact ⟨adL 0 (by decide),rfl⟩
 ·rw [if_neg c0,if_neg c0,if_pos s,if_pos s.2.1,rk,if_pos s.1,eZ,if_neg s.2.2]
  exact ⟨⟨2,_,rfl,by decide,fun _=>⟨_,rfl,Nat.le_of_ble_eq_true rfl⟩⟩,rfl⟩
 ·rw [if_neg c0,if_neg c0,if_neg s]
  by_cases c1:c=1
  ·rw [if_pos c1];exact adM fun kk=>Classical.byContradiction fun h=>s ⟨kk,c1,h⟩
  ·rw [if_neg c1];exact ⟨⟨3,_,rfl,by decide,fun q=>absurd q (by decide)⟩,XZ (by decide) _⟩
def adO (d:Nat)(p:BE):Prop:=Cn (d+2) 72 [.v p.v]=some (.tup [qv p.c,p.k],.un)∧cC p.k=true∧Bd p.c 1
theorem adP {a:Rat}(ha:a∈nG){k:Nat}{c:Rat}(k1:1≤k)(k3:k≤3)(hc:Bd c 1)(hb:Bd a 1){d:Nat}:∀p∈FW a k c,adO d p:=by
 unfold FW
 refine OG (a:=a) (k:=k) (c:=c) (fun c0=>?_) (fun c0 s=>?_) (fun c0 s=>?_)
 ·rw [if_pos c0];exact fun p hp=>List.eq_of_mem_singleton hp▸⟨tQ,rfl,Bd.zero 1⟩
 ·rw [if_neg c0,if_pos s]
  intro p hp
  cases hp with
  |head=>exact ⟨wA BK,rfl,⟨64,by decide+kernel,by decide⟩⟩
  |tail _ hp=>exact List.eq_of_mem_singleton hp▸⟨tQ,rfl,hb⟩
 ·rw [if_neg c0,if_neg s]
  have hr:=BJ ha k1 k3
  exact fun p hp=>List.eq_of_mem_singleton hp▸⟨XY c0 hr,hr.key,hc⟩
theorem RS {a:Rat}{k:Nat}{c:Rat}:(FW a k c).length≤2:=by
 unfold FW
 exact OG (a:=a) (k:=k) (c:=c) (fun c0=>(if_pos c0).symm▸(by decide:1≤2)) (fun c0 s=>(if_neg c0).symm▸(if_pos s).symm▸Nat.le_refl 2) fun c0 s=>(if_neg c0).symm▸(if_neg s).symm▸(by decide:1≤2)
theorem RT {a:Rat}(ha:a∈nG)(hb:Bd a 1){d:Nat}{cs:List Rat}:∀{k:Nat},1≤k→k+cs.length≤4→(∀c∈cs,Bd c 1)→(∀p∈mU a k cs,adO d p)∧
  (∀p∈tX (eZ a) k cs,EO 2 p)∧(tX (eZ a) k cs).flatMap (fl 2)=(mU a k cs).map BE.v∧(mU a k cs).length≤2*cs.length∧(tX (eZ a) k cs).length=cs.length:=by
 induction cs with
 |nil=>exact fun _ _ _=>⟨fun p hp=>(by cases hp),fun p hp=>(by cases hp),rfl,Nat.le_refl _,rfl⟩
 |cons c cs ih=>
  intro k k1 hk h
  replace hk:k+(cs.length+1)≤4:=hk
  refine eS fun gG gH=>?_
  refine TW (ih (k:=k+1) (by lia) (by lia) fun c hc=>h c (.tail _ hc)) fun h1 h2 h3 h4 h5=>?_
  refine aF (adN (a:=a) (c:=c) k1) fun g1 g2=>?_
  refine gH ?_
  refine ⟨fun p hp=>?_,fun p hp=>?_,?_,?_,congrArg (· +1) h5⟩
  ·cases List.mem_append.mp (show p∈FW a k c++mU a (k+1) cs from hp) with
   |inl hp=>exact adP ha k1 (by lia) (h c (.head _)) hb p hp
   |inr hp=>exact h1 p hp
  ·cases hp with
   |head=>exact g1
   |tail _ hp=>exact h2 p hp
  ·refine (?_:fl 2 (pk (eZ a) c k)++(tX (eZ a) (k+1) cs).flatMap (fl 2)=(FW a k c++mU a (k+1) cs).map BE.v)
   rw [g2,h3,List.map_append]
  ·refine (?_:(FW a k c++mU a (k+1) cs).length≤2*(cs.length+1))
   have:=RS (a:=a) (k:=k) (c:=c)
   rw [List.length_append];lia
theorem jU (a:Rat)(k:Nat)(c:Rat):(mH a k c).length≤1:=by
 unfold mH
 exact OG (a:=a) (k:=k) (c:=c) (fun c0=>(if_pos c0).symm▸Nat.zero_le 1) (fun c0 s=>(if_neg c0).symm▸(if_pos s).symm▸Nat.le_refl 1) fun c0 s=>(if_neg c0).symm▸(if_neg s).symm▸Nat.le_refl 1
theorem adQ {l m n:List V}(a:l.length≤1)(b:m.length≤1)(c:n.length≤1):(l++(m++n)).length≤3:=by rw [List.length_append,List.length_append];lia
theorem KZ (a c1 c2 c3:Rat):(mB a c1 c2 c3).length≤3:=by
 unfold mB
 by_cases s:pS a 1 c1
 ·exact (if_pos s).symm▸adQ (jU _ _ _) (jU _ _ _) (jU _ _ _)
 ·exact (if_neg s).symm▸adQ (jU _ _ _) (jU _ _ _) (jU _ _ _)
theorem YH {a:Rat}(ha:a∈nG)(hb:Bd a 1){c0:Rat}{cs:List Rat}(hn:cs.length≤3)(h:∀c∈c0::cs,Bd c 1){d:Nat}:Cn (d+32) 75 [.v (.lst (tX (eZ a) 0 (c0::cs)))]=some (dR a (c0::cs),.un):=by
 refine TW (RT (d:=d+29) ha hb (cs:=cs) (k:=1) (Nat.le_refl _) (by lia) fun c hc=>h c (.tail _ hc)) fun h1 h2 h3 h4 h5=>?_
 have hm:=RP ha (c0:=c0) hn
 have hd:eR (hK (⟨c0,cW,nv c0⟩::mU a 1 cs)) cW=gC a 1 cs:=by refine (Eq.symm hm)▸?_;rfl
 have hl:(cE (hK (⟨c0,cW,nv c0⟩::mU a 1 cs)) cW).getD 0=pU a 1 cs c0:=by refine (Eq.symm hm)▸?_;rfl
 have hN:pU a 1 cs c0=c0+eH a 1 (cs.getD 0 0):=by
  cases cs with
  |nil=>exact (Rat.add_zero c0).symm.trans (congrArg (c0+ ·) (show 0=eH a 1 0 from (if_pos rfl).symm))
  |cons b cs=>exact RQ (a:=a) (cs:=cs) (k:=2) (N:=c0+eH a 1 b) (Nat.le_refl 2)
 refine (YG (d:=d+28) (L:=⟨c0,cW,nv c0⟩::mU a 1 cs) (out:=mB a (cs.getD 0 0) (cs.getD 1 0) (cs.getD 2 0)) ⟨?_,?_,?_,?_,?_,?_,?_⟩).trans ?_
 ·refine (YA (d:=d+29) (by decide) ?_ ?_).trans ?_
  ·intro p hp
   cases hp with
   |head=>exact adL c0 (by decide)
   |tail _ hp=>exact h2 p hp
  ·exact (show (tX (eZ a) 1 cs).length+1≤10 by rw [h5];lia)
  ·exact congrArg (fun l=>some (V.lst (nv c0::l),aE.un)) h3
 ·refine (Eq.symm List.length_cons)▸?_;lia
 ·intro p hp
  cases hp with
  |head=>exact ⟨tQ (d:=d+29),rfl,h c0 (.head _)⟩
  |tail _ hp=>exact h1 p hp
 ·refine (Eq.symm hd)▸?_;exact zC ha (Nat.le_refl _) (by lia)
 ·refine (Eq.symm hd)▸?_;refine (Eq.symm (rW hn))▸?_
  intro x hx
  rcases List.mem_append.mp hx with hx|hx
  ·rcases List.mem_append.mp hx with hx|hx<;>exact BM x hx
  ·exact BM x hx
 ·refine (Eq.symm hd)▸?_;refine (Eq.symm (rW hn))▸?_
  exact KX ha (d:=d)
 ·have:=KZ a (cs.getD 0 0) (cs.getD 1 0) (cs.getD 2 0);lia
 ·refine (Eq.symm hl)▸?_;refine (Eq.symm hN)▸?_;rfl
theorem rX {A:V}{cs:List Rat}:∀{k:Nat},(dT A k cs).length=cs.length:=by
 induction cs with
 |nil=>exact rfl
 |cons c cs ih=>exact congrArg (· +1) ih
theorem EV {A:V}(hA:A∈nN){d:Nat}{s1 s2 s3:aE}{cs:List Rat}:∀{k:Nat},k+cs.length≤4→(∀c∈cs,Bd c 1)→xM (pR (Cn (d+30)) 1 [] (.call 79 [.var 3]) [s1,s2,s3]) (dT A k cs)=some (tX A k cs):=by
 induction cs with
 |nil=>exact fun _ _=>rfl
 |cons c cs ih=>
  intro k hk h
  replace hk:k+(cs.length+1)≤4:=hk
  exact wD (tV (aS (dX fun _=>rfl) (rV hA (by lia) ((h c (.head _)).sm (by decide))))) (ih (by lia) fun c hc=>h c (.tail _ hc))
theorem wG {a:Rat}(ha:a∈nG)(hb:Bd a 1){cs:List Rat}(hn:cs.length≤4)(h:∀c∈cs,Bd c 1){d:Nat}:Cn (d+40) 79 [.v (.tup [.str 2,.tup (dT (eZ a) 0 cs)])]=some (dR a cs,.un):=by
 cases cs with
 |nil=>
  have:dR a []=nv 0:=by
   have e:mB a 0 0 0=[]:=by unfold mB;rw [gD,gD,gD];split<;>rfl
   have n:eH a 1 0=0:=by unfold eH;rw [if_pos rfl]
   rw [dR,List.getD_nil,List.getD_nil,List.getD_nil,List.getD_nil,e,n,if_neg (by rw [Rat.add_zero];exact not_not_intro rfl)];rfl
  refine (Eq.symm this)▸?_
  exact bZ (d:=d+39) (by kernel_rfl)
 |cons c0 cs=>
  have hl:(dT (eZ a) 0 (c0::cs)).length≤1000:=rX▸Nat.le_trans hn (by decide)
  refine (JM.2 (Cn (d+39)) _).symm.trans ((lT (b:=f_simplify.body.drop 6) wE.2).trans ?_)
  exact eE (bU (lY (l:=dT (eZ a) 0 (c0::cs)) rfl (yU (v:=.tup (dT (eZ a) 0 (c0::cs))) (fun _=>rfl) rfl) (EV (oF ha) (d:=d+9) (k:=0) (by lia) h) hl rfl) rfl)<|
   yT (fun _=>rfl) fun κ=>cR (r:=[]) (κ:=κ) (q:=aC false) (ρ1:=[.v (.tup [.str 2,.tup (dT (eZ a) 0 (c0::cs))]),.v (.str 2),.v (.lst (tX (eZ a) 0 (c0::cs)))]) (aS (dX fun _=>rfl) (YH (d:=d+7) ha hb (Nat.le_of_succ_le_succ hn) h))
noncomputable def iR:List Rat:=[-2, -1,mkRat (-1) 2,0,mkRat 1 2,1,2]
noncomputable def pw (a:Rat)(k j:Nat):Rat:=(([[1],[a,1],[a*a,2*a,1],[a*a*a,3*(a*a),3*a,1]]:List (List Rat)).getD k []).getD j 0
theorem BN {α:Rat}{t k:Nat}(h:t<k):pw α t k=0:=by
 have get:∀(l:List Rat),l.length≤k→l.getD k 0=0:=fun l hl=>by rw [List.getD_eq_getElem?_getD,List.getElem?_eq_none hl];rfl
 match t,h with
 |0,h=>exact get [1] h
 |1,h=>exact get [α,1] h
 |2,h=>exact get [α*α,2*α,1] h
 |3,h=>exact get [α*α*α,3*(α*α),3*α,1] h
 |t+4,_=>rfl
noncomputable def cfs:List Rat:=[-2, -1,1,2]
noncomputable def LB (a:Rat):V:=.tup [.str 17,.tup [.int 0,.lst [qv a,.tup [.int 1,.int 1]]]]
noncomputable def YI (v:V)(f:List V→Bool):Bool:=match v with
 |.tup l=>f l
 |_=>false
noncomputable def RU (v:V)(f:Int→Bool):Bool:=match v with
 |.int i=>f i
 |_=>false
noncomputable def adR (v:V)(f:List V→Bool):Bool:=match v with
 |.lst l=>f l
 |_=>false
noncomputable def c2B (l:List V)(f:V→V→Bool):Bool:=match l with
 |[]=>false
 |a::l=>match l with
  |[]=>false
  |b::l=>match l with
   |[]=>f a b
   |_::_=>false
theorem LC {v:V}{f:List V→Bool}(h:YI v f=true):∃l,v=.tup l∧f l=true:=by
 cases v with
 |tup l=>exact ⟨l,rfl,h⟩
 |_=>exact (Bool.false_ne_true h).elim
theorem zD {v:V}{f:Int→Bool}(h:RU v f=true):∃l,v=.int l∧f l=true:=by
 cases v with
 |int l=>exact ⟨l,rfl,h⟩
 |_=>exact (Bool.false_ne_true h).elim
theorem YJ {v:V}{f:List V→Bool}(h:adR v f=true):∃l,v=.lst l∧f l=true:=by
 cases v with
 |lst l=>exact ⟨l,rfl,h⟩
 |_=>exact (Bool.false_ne_true h).elim
theorem UX {l:List V}{f:V→V→Bool}(h:c2B l f=true):∃a b,l=[a,b]∧f a b=true:=by
 cases l with
 |nil=>exact (Bool.false_ne_true h).elim
 |cons a l=>cases l with
  |nil=>exact (Bool.false_ne_true h).elim
  |cons b l=>cases l with
   |nil=>exact bM a b ⟨rfl,h⟩
   |cons _ _=>exact (Bool.false_ne_true h).elim
noncomputable def q2B (v:V)(f:Int→Int→Bool):Bool:=YI v fun l=>c2B l fun a b=>RU a fun i=>RU b fun j=>f i j
theorem UY {v:V}{f:Int→Int→Bool}(h:q2B v f=true):∃i j,v=.tup [.int i,.int j]∧f i j=true:=by
 refine aD (LC h) fun l e h=>?_
 refine cF (UX h) fun a b e2 h=>?_
 refine aD (zD h) fun i e3 h=>?_
 refine aD (zD h) fun j e4 h=>?_
 exact bM i j ⟨by rw [e,e2,e3,e4],h⟩
noncomputable def isQ (v:V):Bool:=q2B v fun _ _=>true
noncomputable def jI:V:=.tup [.int 0,.int 1]
noncomputable def isR (v:V)(r:Rat):Bool:=q2B v fun i j=>decide (i=r.num) && decide (j=r.den)
noncomputable def YK (l:List V)(m:List Rat):Bool:=List.rec (motive:=fun _=>List Rat→Bool) (fun m=>m.isEmpty) (fun v _ ih m=>match m with
 |[]=>false
 |r::m=>isR v r && ih m) l m
theorem YL {v:V}{r:Rat}(h:isR v r=true):v=qv r:=by
 refine cF (UY h) fun i j e h=>?_
 refine aF (eY h) fun h1 h2=>?_
 rw [e,of_decide_eq_true h1,of_decide_eq_true h2];rfl
theorem RV {l:List V}:∀{m:List Rat},YK l m=true→l=m.map qv:=by
 induction l with
 |nil=>intro m h;cases m with
  |nil=>rfl
  |cons r m=>cases h
 |cons v l ih=>intro m h;cases m with
  |nil=>cases h
  |cons r m=>
   refine aF (eY (show (isR v r && YK l m)=true from h)) fun h1 h2=>?_
   refine (Eq.symm (YL h1))▸?_;refine (Eq.symm (ih h2))▸?_;rfl
noncomputable def LD (v:V)(n:Nat)(f:Nat→Rat):Bool:=YI v fun l=>c2B l fun a b=>RU a fun i=>adR b fun m=>decide (.ofNat i.toNat=i) && (m.all isQ && (Nat.ble n (i.toNat+m.length) && (Nat.ble (i.toNat+m.length) 20 && YK ((List.replicate i.toNat jI++m).take n) ((List.range n).map f))))
noncomputable def okR (o:Option (V×aE))(f:V→Bool):Bool:=match o with
 |some r=>match r.2 with
  |.un=>f r.1
  |_=>false
 |none=>false
theorem adS {o:Option (V×aE)}{f:V→Bool}(h:okR o f=true):∃v,o=some (v,.un)∧f v=true:=by
 cases o with
 |none=>exact (Bool.false_ne_true h).elim
 |some r=>cases r with
  |mk v s=>cases s with
   |un=>exact ⟨v,rfl,h⟩
   |_=>exact (Bool.false_ne_true h).elim
noncomputable def pW (d n:Nat):Bool:=iR.all fun a=>cfs.all fun c=>k3.all fun k=>okR (aT (d+20) 42 [.v (wn c (rk sx k)),.v (.int n),.v (LB a)]) fun v=>LD v n fun j=>c*pw a k j
theorem adT (d:Nat):pW d 3=true:=by kernel_rfl
theorem adU (d:Nat):pW d 4=true:=by kernel_rfl
theorem adV (d:Nat):pW d 5=true:=by kernel_rfl
theorem adW (d:Nat):pW d 6=true:=by kernel_rfl
structure iU (v:V)(n:Nat)(f:Nat→Rat):Prop where
 ex:∃low m,v=.tup [.int (.ofNat low),.lst m]∧(∀x∈m,∃i j,x=.tup [.int i,.int j])∧n≤low+m.length∧low+m.length≤20∧(List.replicate low jI++m).take n=(List.range n).map fun j=>qv (f j)
theorem YM {x:V}(h:isQ x=true):∃i j,x=.tup [.int i,.int j]:=cF (UY h) fun _ _ e _=>bM _ _ e
theorem RW {v:V}{n:Nat}{f:Nat→Rat}(h:LD v n f=true):iU v n f:=by
 refine aD (LC h) fun l e h=>?_
 refine cF (UX h) fun a b e2 h=>?_
 refine aD (zD h) fun i e3 h=>?_
 refine aD (YJ h) fun m e4 h=>?_
 refine aF (eY h) fun h0 h=>?_
 refine aF (eY h) fun h1 h=>?_
 refine aF (eY h) fun h2 h=>?_
 refine aF (eY h) fun h3 h4=>?_
 exact ⟨i.toNat,m,by rw [e,e2,e3,e4,of_decide_eq_true h0],fun x hx=>YM (List.all_eq_true.mp h1 x hx),Nat.le_of_ble_eq_true h2,Nat.le_of_ble_eq_true h3,(RV h4).trans List.map_map⟩
theorem anC {a c:Rat}{k n:Nat}(ha:a∈iR)(hc:c∈cfs)(hk:k=1∨k=2∨k=3)(hn:n=3∨n=4∨n=5∨n=6){d:Nat}:∃v,Cn (d+21) 42 [.v (wn c (rk sx k)),.v (.int n),.v (LB a)]=some (v,.un)∧iU v n fun j=>c*pw a k j:=by
 have h:pW d n=true:=by
  rcases hn with rfl|rfl|rfl|rfl
  ·exact adT d
  ·exact adU d
  ·exact adV d
  ·exact adW d
 refine aD (adS (List.all_eq_true.mp (List.all_eq_true.mp (List.all_eq_true.mp h a ha) c hc) k (yZ (by lia) (by lia)))) fun v e h=>?_
 exact ⟨v,bZ e,RW h⟩
theorem LE {g:V→Option (Option V)}{r:Nat→V}(j:Nat):∀i,(∀t,i≤t→t<i+j→g (.int (.ofNat t))=some (some (r t)))→xM g (upTo j (.ofNat i))=some ((List.range' i j).map r):=by
 induction j with
 |zero=>exact fun _ _=>rfl
 |succ j ih=>exact fun i h=>wD (l:=upTo j (.ofNat (i+1))) (h i (Nat.le_refl _) (by lia)) (ih (i+1) fun t h1 h2=>h t (by lia) (by lia))
noncomputable def qL (n:Nat)(f:Nat→Rat):List V:=(List.range n).map fun j=>qv (f j)
theorem kX {n:Nat}{f:Nat→Rat}:(qL n f).length=n:=by rw [qL,List.length_map,List.length_range]
theorem LF {n:Nat}{f:Nat→Rat}{j:Nat}(h:j<n):(qL n f)[j]? =some (qv (f j)):=by
 rw [qL,List.getElem?_map,List.getElem?_range h];rfl
theorem dY {β:Type}{l:List V}{t:Nat}{x:V}{k:V→Option β}(h:l[t]? =some x)(ht:t≤1000):oU (.lst l) (.int (.ofNat t)) k=k x:=by
 refine (?_:cond (Nat.ble t 1000) ((CV l t).bind k) none=_)
 rw [cS ht,lJ,h];rfl
theorem mC {i j:Nat}(h:j≤i):Nat.blt i j=false:=by
 cases e:Nat.blt i j
 ·rfl
 ·rw [Nat.blt_eq] at e;lia
theorem oG {β:Type}{n:Nat}(h:n<1000){k:List V→Option β}:xN 0 (.ofNat n) k=k (upTo n 0):=by
 refine (?_:cond (Nat.blt n 1000) (cond true (cond true (cond true (k (upTo (Int.toNat (Int.sub (.ofNat n) 0)) 0)) none) none) none) none=_)
 refine (Eq.symm (Nat.blt_eq.mpr h))▸?_
 refine (Eq.symm (show Int.sub (.ofNat n) 0=.ofNat n from Int.sub_zero (.ofNat n)))▸?_;rfl
section
variable {C:CF}{β:Type}{a b e:E}{ρ ρ1 ρ2:Fm}{x y z:V}{n low:Nat}
theorem LG {o:B2}(h:Ev C β a ρ x ρ1)(g:Ev C β b ρ1 y ρ2)(w:∀K:V→Option β,AF o x y K=K z):Ev C β (.bi2 o a b) ρ z ρ2:=fun _=>(h _).trans ((g _).trans (w _))
theorem UZ {i j:Int}(h:lD j i=false)(K:V→Option β):AF .min (.int i) (.int j) K=K (.int i):=congrArg (fun t=>K (cond t (.int j) (.int i))) h
theorem RX (h:Ev C β e ρ (.int (.ofNat n)) ρ1)(hn:n<1000)(K:List V→Fm→Option β):gJ C glb (.rng1 e) β ρ K=K (upTo n 0) ρ1:=(h _).trans (oG hn)
theorem LI (h:low≤20)(K:V→Option β):GG (.lst [jI]) (.int (.ofNat low)) K=K (.lst (List.replicate low jI)):=
 congrArg (cond · (cond true (K (.lst (List.replicate low jI))) none) none) (Nat.blt_eq.mpr (by lia:low<1000))
theorem LJ {l m:List V}(h:l.length+m.length≤20)(K:V→Option β):GE (.lst l) (.lst m) K=K (.lst (l++m)):=congrArg (cond · _ none) (cS (Nat.le_trans h (by decide)))
end
theorem YN {d n:Nat}{m:List V}{F f:Nat→Rat}(hm:m.take n=qL n f)(hn:n≤20)(hl:m.length≤20)(hs:∀j,j<n→Sm (F j)∧Sm (f j)):
  Cn (d+4) 22 [.v (.lst (qL n F)),.v (.lst m)]=some (.lst (qL n fun j=>F j+f j),.un):=by
 have hnm:n≤m.length:=by
  have:=congrArg List.length hm
  rw [List.length_take,kX] at this;lia
 have hg:∀j,j<n→m[j]? =some (qv (f j)):=fun j hj=>((List.getElem?_take_of_lt hj).symm.trans (congrArg (·[j]?) hm)).trans (LF hj)
 refine (XA.2 (Cn (d+3)) _ _).symm.trans (cR (r:=[]) (ρ1:=[.v (.lst (qL n F)),.v (.lst m)]) (κ:=aC false .none) (q:=aC false) ?_)
 refine lY (l:=upTo n 0) (ρ1:=[.v (.lst (qL n F)),.v (.lst m)]) rfl (RX (LG (x:=.int (.ofNat n)) (y:=.int (.ofNat m.length)) (kB (x:=.lst (qL n F)) (fun _=>rfl) fun K=>(rU (by rw [kX];lia) K).trans (congrArg (fun n=>K (.int (.ofNat n))) kX)) (kB (x:=.lst m) (fun _=>rfl) (rU (by lia))) (UZ (mC hnm))) (by lia))
  ((LE (r:=fun j=>qv (F j+f j)) n 0 fun t _ h2=>tV (ρ2:=[.v (.lst (qL n F)),.v (.lst m),.v (.int (.ofNat t))]) ?_).trans (congrArg (fun l=>some (l.map fun j=>qv (F j+f j))) List.range_eq_range'.symm)) (by rw [pI];lia) rfl
 exact aS (bR (mP (x:=.lst (qL n F)) (y:=.int (.ofNat t)) (fun _=>rfl) (fun _=>rfl) fun K=>dY (LF (by lia)) (by lia)) (mP (x:=.lst m) (y:=.int (.ofNat t)) (fun _=>rfl) (fun _=>rfl) fun K=>dY (hg t (by lia)) (by lia))) (JX (hs t (by lia)).1 (hs t (by lia)).2)
theorem wH {d low:Nat}{m:List V}(h:low+m.length≤20):Cn (d+2) 32 [.v (.tup [.int (.ofNat low),.lst m]),.v (.int 0)]=some (.tup [.int 0,.lst (List.replicate low jI++m)],.un):=
 (XB.2 (Cn (d+1)) _ _).symm.trans<|cR (r:=[]) (ρ1:=[.v (.tup [.int (.ofNat low),.lst m]),.v (.int 0)]) (κ:=aC false .none) (q:=aC false)<|
  eD (bR (fun _=>rfl) (dM (y:=.lst m) (dM (pO (dX (x:=jI) fun _=>rfl)) (kR (i:=.ofNat low) (j:=0) (fun _=>rfl) (fun _=>rfl)) fun K=>(congrArg (fun i=>GG (.lst [jI]) (.int i) K) (Int.sub_zero (.ofNat low))).trans (LI (by lia) K)) (fun _=>rfl) (LJ (by rw [List.length_replicate];exact h))))
theorem YO {d n:Nat}{v:V}{F f:Nat→Rat}(hv:iU v n f)(hn:n≤20)(hs:∀j,j<n→Sm (F j)∧Sm (f j)):
  Cn (d+5) 33 [.v (.tup [.int 0,.lst (qL n F)]),.v v]=some (.tup [.int 0,.lst (qL n fun j=>F j+f j)],.un):=
 iY hv.ex fun low m e h1 h2 h3 h4=>e▸
 (XC.2 (Cn (d+4)) _ _).symm.trans (eE (s:=cK f_ladd.body 0) (ρ1:=[.v (.tup [.int 0,.lst (qL n F)]),.v (.tup [.int (.ofNat low),.lst m]),.v (.int 0)]) (bU (LG (x:=.int 0) (y:=.int (.ofNat low)) (fun _=>rfl) (fun _=>rfl) (UZ (mC (Nat.zero_le low)))) rfl)<|
  cR (r:=[]) (ρ1:=[.v (.tup [.int 0,.lst (qL n F)]),.v (.tup [.int (.ofNat low),.lst m]),.v (.int 0)]) (κ:=aC false .none) (q:=aC false)<|
  eD (bR (fun _=>rfl) (aS (bR (yS (aS (bR (fun _=>rfl) fun _=>rfl) (wH (d:=d+2) (low:=0) (by rw [kX];lia))) fun _=>rfl) (yS (aS (bR (fun _=>rfl) fun _=>rfl) (wH (d:=d+2) h3)) fun _=>rfl)) (YN (d:=d) h4 hn (by rw [List.length_append,List.length_replicate];exact h3) hs))))
theorem iU.low0 {n:Nat}{f:Nat→Rat}(hn:n≤20):iU (.tup [.int 0,.lst (qL n f)]) n f:=by
 refine ⟨0,qL n f,rfl,?_,by refine (Eq.symm kX)▸?_;lia,by refine (Eq.symm kX)▸?_;lia,?_⟩
 ·intro x hx
  rw [qL,List.mem_map] at hx
  obtain ⟨j,_,rfl⟩:=hx
  exact (bM _ _ rfl)
 ·rw [List.replicate_zero,List.nil_append]
  exact List.take_of_length_le (by rw [kX];exact Nat.le_refl _)
noncomputable def YP (c:Rat)(j:Nat):Rat:=if j=0 then c else 0
theorem wI {c:Rat}{n d:Nat}{a:V}(hn:n=3∨n=4∨n=5∨n=6):Cn (d+21) 42 [.v (nv c),.v (.int n),.v a]=some (.tup [.int 0,.lst (qL n (YP c))],.un):=by
 have:∀p q:Int,aT (d+20) 42 [.v (kU p q),.v (.int 3),.v a]=some (.tup [.int 0,.lst [.tup [.int p,.int q],jI,jI]],.un)∧
   aT (d+20) 42 [.v (kU p q),.v (.int 4),.v a]=some (.tup [.int 0,.lst [.tup [.int p,.int q],jI,jI,jI]],.un)∧
   aT (d+20) 42 [.v (kU p q),.v (.int 5),.v a]=some (.tup [.int 0,.lst [.tup [.int p,.int q],jI,jI,jI,jI]],.un)∧
   aT (d+20) 42 [.v (kU p q),.v (.int 6),.v a]=some (.tup [.int 0,.lst [.tup [.int p,.int q],jI,jI,jI,jI,jI]],.un):=fun p q=>⟨by kernel_rfl,by kernel_rfl,by kernel_rfl,by kernel_rfl⟩
 refine uY (this c.num c.den) fun h3 h4 h5 h6=>?_
 rcases hn with rfl|rfl|rfl|rfl
 ·exact (bZ h3).trans rfl
 ·exact (bZ h4).trans rfl
 ·exact (bZ h5).trans rfl
 ·exact (bZ h6).trans rfl
theorem RY {n d:Nat}(hn:n=3∨n=4∨n=5∨n=6):Cn (d+21) 31 [.v jI,.v (.int n)]=some (.tup [.int 0,.lst (qL n fun _=>0)],.un):=by
 rcases hn with rfl|rfl|rfl|rfl
 ·exact bZ (d:=d+20) (by kernel_rfl)
 ·exact bZ (d:=d+20) (by kernel_rfl)
 ·exact bZ (d:=d+20) (by kernel_rfl)
 ·exact bZ (d:=d+20) (by kernel_rfl)
structure uX where
 v:V
 f:Nat→Rat
noncomputable def fT (t n a:V)(s3 s4 s5:aE):Fm:=[.v t,.v n,.v a,s3,s4,s5]
noncomputable def oT:List S:=f_of_term.body
noncomputable def sT0 (L:List uX):V:=.tup [.str 2,.tup (L.map uX.v)]
theorem RZ {C:CF}{β:Type}{q:V→Fm→Option β}{vs:List V}{n a F F' v one:V}{s5:aE}(h42:C 42 [.v one,.v n,.v a]=some (v,.un))(h33:C 33 [.v F,.v v]=some (F',.un)):
  mO C β q (nM (cK oT 6)) (fT (.tup [.str 2,.tup vs]) n a (.v F) (.v one) s5) (fT (.tup [.str 2,.tup vs]) n a (.v F') (.v one) (.v v)):=
 iE (bU (aS (fun _=>rfl) h42) rfl) (bU (fun _=>bD (bD h33 rfl) rfl) rfl)
noncomputable def YQ (F:Nat→Rat)(p:uX)(j:Nat):Rat:=F j+p.f j
def anD (L:List uX)(n:Nat)(a:V)(c:Nat)(F:Nat→Rat)(ρ:Fm):Prop:=(c≤8∧∀j,Bd (F j) (8 - c))∧∃s4 s5,ρ=fT (sT0 L) (.int n) a (.v (.tup [.int 0,.lst (qL n F)])) s4 s5
theorem LK {d n:Nat}{a:V}{L:List uX}(hn:n=3∨n=4∨n=5∨n=6)(hL:L.length≤8)(h:∀p∈L,(∀j,Bd (p.f j) 1)∧∃v,Cn (d+21) 42 [.v p.v,.v (.int n),.v a]=some (v,.un)∧iU v n p.f):
  Cn (d+22) 42 [.v (.tup [.str 2,.tup (L.map uX.v)]),.v (.int n),.v a]=some (.tup [.int 0,.lst (qL n (L.foldl (fun F p=>fun j=>F j+p.f j) fun _=>0))],.un):=
 aD (gZ (C:=Cn (d+21)) (q:=aC false) (xs:=[4]) (sr:=.val (.subN (.var 0) 1)) (b:=nM (cK oT 6)) (ρ:=fT (sT0 L) (.int n) a (.v (.tup [.int 0,.lst (qL n fun _=>0)])) .un .un) (val:=uX.v) (L:=L) (s:=fun _=>(0:Rat)) (anD L n a) YQ 6 rfl (fun _=>rfl) (fun _ _ _ g=>bA g.2 fun _ _ e=>e▸rfl) ⟨⟨hL,fun j=>Bd.zero _⟩,_,_,rfl⟩ fun p hp c F ρ g=>
  bA g.2 fun s4 s5 e1=>aD (h p hp).2 fun v e ht=>bM (fT (sT0 L) (.int n) a (.v (.tup [.int 0,.lst (qL n F)])) (.v p.v) s5) (fT (sT0 L) (.int n) a (.v (.tup [.int 0,.lst (qL n (YQ F p))])) (.v p.v) (.v v)) (e1.symm▸⟨fun _=>rfl,⟨⟨Nat.le_of_succ_le g.1.1,fun j=>((g.1.2 j).add ((h p hp).1 j)).mono (lU g.1.1)⟩,_,_,rfl⟩,RZ (vs:=L.map uX.v) (s5:=s5) e (YO (d:=d+16) ht (by lia) fun j _=>⟨(g.1.2 j).sm (eP (by decide)),((h p hp).1 j).sm (by decide)⟩)⟩)) fun τ g e=>bA g.2 fun s4 s5 e1=>
 (XF.2 (Cn (d+21)) _ _ _).symm.trans ((lT (a:=oT.take 7) (b:=[cK oT 7]) (ρ1:=fT (sT0 L) (.int n) a (.v (.tup [.int 0,.lst (qL n (L.foldl YQ fun _=>0))])) s4 s5) (dJ (fun _=>rfl) (dJ (fun _=>rfl) (dJ (fun _=>rfl) (dJ (fun _=>rfl) (dJ (fun _=>rfl) (iE (bU (aS (fun _=>rfl) (RY (d:=d) hn)) rfl) (e1▸e)))))))).trans rfl)
noncomputable def OH (x:V):Bool:= @decide (x=jI) (Classical.propDecidable _)
theorem BP {x:V}:OH x=true↔x=jI:= @decide_eq_true_iff _ (Classical.propDecidable _)
theorem SA {i j:Int}:OH (.tup [.int i,.int j])=(decide (i=0) && decide (j=1)):=by
 rw [Bool.eq_iff_iff,BP,Bool.and_eq_true,decide_eq_true_iff,decide_eq_true_iff]
 exact ⟨fun h=>by cases h;exact ⟨rfl,rfl⟩,fun ⟨a,b⟩=>by refine (Eq.symm a)▸?_;refine (Eq.symm b)▸?_;rfl⟩
noncomputable def tz:List V→Nat
 |[]=>0
 |x::r=>if OH x then tz r+1 else 0
theorem YR {x:V}{r:List V}(h:OH x=true):tz (x::r)=tz r+1:=if_pos h
theorem YS {x:V}{r:List V}(h:¬OH x=true):tz (x::r)=0:=if_neg h
theorem VA (m:List V):tz m≤m.length:=by
 induction m with
 |nil=>exact Nat.le_refl _
 |cons x r ih=>
  by_cases h:OH x=true
  ·exact (YR (r:=r) h).symm▸Nat.succ_le_succ ih
  ·exact (YS (r:=r) h).symm▸Nat.zero_le _
theorem SB (m:List V):m.take (tz m)=List.replicate (tz m) jI:=by
 induction m with
 |nil=>rfl
 |cons x r ih=>
  by_cases h:OH x=true
  ·refine (YR (r:=r) h).symm▸?_
   exact (congrArg (x:: ·) ih).trans (congrArg (· ::List.replicate (tz r) jI) (BP.mp h))
  ·exact (YS (r:=r) h).symm▸rfl
theorem LL {C:CF}{β:Type}{q:V→Fm→Option β}{s:aE}{κ:Fm→Option β}{m:List V}:∀{n low:Nat},(∀x∈m,∃i j,x=.tup [.int i,.int j])→m.length≤20→m.length<n→
  sU (wS C β q (.and [.cmp .gt (.bi1 .len (.var 2)) (.int 0),.cmp .eq (.subN (.var 2) 0) (.glob 0)]) [.unpE [1,2] [.e (.bin .add (.var 1) (.int 1)),.e (.slcLo (.var 2) (.int 1))]] 3) κ n [s,.v (.int (.ofNat low)),.v (.lst m)]=κ [s,.v (.int (.ofNat (low+tz m))),.v (.lst (m.drop (tz m)))]:=by
 induction m with
 |nil=>
  intro n low _ _ hn
  cases n with
  |zero=>exact absurd hn (Nat.lt_irrefl 0)
  |succ n=>exact UN (ρ1:=[s,.v (.int (.ofNat low)),.v (.lst [])]) rfl fun _=>rfl
 |cons x r ih=>
  intro n low hm hl hn
  cases n with
  |zero=>exact absurd hn (Nat.not_lt_zero _)
  |succ n=>
   replace hl:r.length+1≤20:=hl
   refine bA (hm x (.head _)) fun i j e=>?_
   have ht:Ev C β (.and [.cmp .gt (.bi1 .len (.var 2)) (.int 0),.cmp .eq (.subN (.var 2) 0) (.glob 0)]) [s,.v (.int (.ofNat low)),.v (.lst (x::r))] (.bool (OH x)) [s,.v (.int (.ofNat low)),.v (.lst (x::r))]:=
    AY (s:=true) (t:=OH x) rfl (bQ (x:=.int (.ofNat (r.length+1))) (y:=.int 0) (kB (x:=.lst (x::r)) (fun _=>rfl) (rU (show r.length+1≤1000 by lia))) (fun _=>rfl) fun _=>rfl)
     fun _=>bQ (x:=x) (y:=jI) (fun _=>rfl) (fun _=>rfl) fun K=>by
      subst e
      exact (UQ (k:=fun t=>K (.bool t))).trans (congrArg (fun t=>K (.bool t)) (by rw [eB,eB,SA]))
   by_cases h:OH x=true
   ·refine (YR (r:=r) h).symm▸?_
    refine (adD (ρ2:=[s,.v (.int (.ofNat (low+1))),.v (.lst r)]) rfl (h▸ht) (vY fun κ=>?_)).trans ((ih (fun y hy=>hm y (.tail _ hy)) (by lia) (Nat.lt_of_succ_lt_succ hn)).trans ?_)
    ·refine dI (i:=.ofNat low) (j:=1) (z:=.ofNat (low+1)) (fun _=>rfl) (fun _=>rfl) rfl _|>.trans ?_
     exact bD (show xJ (.lst (x::r)) (.int 1)=some (.lst r) from if_pos ⟨by decide,Nat.le_trans (show r.length+1≤21 by lia) (by decide)⟩) rfl
    ·exact congrArg (fun n=>κ [s,.v (.int (.ofNat n)),.v (.lst (r.drop (tz r)))]) (show low+1+tz r=low+(tz r+1) by lia)
   ·refine (YS (r:=r) h).symm▸?_
    exact UN rfl ((Bool.eq_false_iff.mpr h)▸ht)
theorem BQ {d low:Nat}{m:List V}(hm:∀x∈m,∃i j,x=.tup [.int i,.int j])(hl:m.length≤20):Cn (d+2) 35 [.v (.tup [.int (.ofNat low),.lst m])]=some (.tup [.int (.ofNat (low+tz m)),.lst (m.drop (tz m))],.un):=
 (XD.2 (Cn (d+1)) _).symm.trans<|eE (s:=cK f_ltrim.body 0) (ρ1:=[.v (.tup [.int (.ofNat low),.lst m]),.v (.int (.ofNat low)),.v (.lst m)]) (fun _=>rfl)<|
  eE (s:=cK f_ltrim.body 1) (XR rfl (fun κ=>LL hm hl (by lia)) rfl) rfl
theorem wJ (low:Nat)(m:List V):List.replicate (low+tz m) jI++m.drop (tz m)=List.replicate low jI++m:=by
 rw [←List.replicate_append_replicate,List.append_assoc, ←SB,List.take_append_drop]
section
variable {C:CF}{β:Type}{a b:E}{ρ ρ1 ρ2:Fm}{x y z:V}{i j:Int}{q:V→Fm→Option β}{κ:Fm→Option β}
theorem LM {t:Bool}(h:lD i j=t)(K:V→Option β):bK .lt (.int i) (.int j) K=K (.bool t):=congrArg (fun t=>K (.bool t)) h
theorem LN {t:Bool}(h:lD i j=t)(K:V→Option β):bK .ge (.int i) (.int j) K=K (.bool (not t)):=congrArg (fun t=>K (.bool (not t))) h
theorem adY (h:lD i j=false)(K:V→Option β):AF .max (.int i) (.int j) K=K (.int i):=congrArg (fun t=>K (cond t (.int j) (.int i))) h
theorem LP (h:Ev C β a ρ x ρ1)(g:Ev C β b ρ1 y ρ2)(w:kI x y=some z):Ev C β (.slcHi a b) ρ z ρ2:=fun _=>(h _).trans ((g _).trans (bD w rfl))
theorem YT {A r:List S}{w:Option β}(h:Ev C β a ρ (.bool true) ρ1)(g:∀κ:Fm→Option β,aU C glb A β ρ1 κ q=w):aU C glb (.whl a A::r) β ρ κ q=w:=(fO rfl).trans ((h _).trans (g _))
end
theorem YU {d n e:Nat}{v:V}{f:Nat→Rat}(hv:iU v n f)(he:e≤n):Cn (d+3) 38 [.v v,.v (.int (.ofNat e))]=some (.lst (qL e f),.un):=by
 refine eS fun gG gH=>?_
 refine iY hv.ex fun low m e0 h1 h2 h3 h4=>?_
 have hd:(m.drop (tz m)).length=m.length - tz m:=List.length_drop
 have ht:=VA m
 have h9:kI (.lst (List.replicate (low+tz m) jI++m.drop (tz m))) (.int (.ofNat e))=some (.lst (qL e f)):=by
  rw [wJ]
  refine (if_pos ⟨Int.natCast_nonneg e,?_⟩).trans ?_
  rotate_left
  ·rw [List.length_append,List.length_replicate];exact Nat.le_trans h3 (by decide)
  ·rw [show (Int.ofNat e).toNat=e from rfl,show e=min e n by lia, ←List.take_take,h4,qL, ←List.map_take,List.take_range]
 have hl:∀{β:Type},Ev (Cn (d+2)) β (.bi1 .len (.var 3)) [.v v,.v (.int (.ofNat e)),.v (.int (.ofNat (low+tz m))),.v (.lst (m.drop (tz m)))] (.int (.ofNat (m.drop (tz m)).length)) [.v v,.v (.int (.ofNat e)),.v (.int (.ofNat (low+tz m))),.v (.lst (m.drop (tz m)))]:=fun {_}=>kB (x:=.lst (m.drop (tz m))) (fun _=>rfl) (rU (by lia))
 have c1:Ev (Cn (d+2)) (V×aE) (.and [.cmp .gt (.bi1 .len (.var 3)) (.int 0),.cmp .lt (.var 2) (.int 0)]) [.v v,.v (.int (.ofNat e)),.v (.int (.ofNat (low+tz m))),.v (.lst (m.drop (tz m)))] (.bool (lD 0 (.ofNat (m.drop (tz m)).length) && false)) [.v v,.v (.int (.ofNat e)),.v (.int (.ofNat (low+tz m))),.v (.lst (m.drop (tz m)))]:=
  AY (t:=false) rfl (bQ (y:=.int 0) hl (fun _=>rfl) fun _=>rfl) fun _=>bQ (x:=.int (.ofNat (low+tz m))) (y:=.int 0) (fun _=>rfl) (fun _=>rfl) (LM (mC (Nat.zero_le _)))
 rw [Bool.and_false] at c1
 refine gH ((XE.2 (Cn (d+2)) _ _).symm.trans (eE (BF (aS (dX fun _=>rfl) (e0▸BQ (d:=d) h1 (show m.length≤20 by lia))) rfl) (eE (mQ c1 iD) (eE (mQ (bQ (x:=.int (.ofNat (low+m.length))) (y:=.int (.ofNat e)) (dI (i:=.ofNat (low+tz m)) (fun _=>rfl) hl (congrArg Int.ofNat (show low+tz m+(m.drop (tz m)).length=low+m.length by lia))) (fun _=>rfl) (LM (mC (by lia)))) iD)
  (cR (r:=[]) (κ:=aC false .none) (q:=aC false) (ρ1:=[.v v,.v (.int (.ofNat e)),.v (.int (.ofNat (low+tz m))),.v (.lst (m.drop (tz m)))]) (gB (t:=true) rfl (bQ (x:=.int (.ofNat (low+tz m))) (y:=.int 0) (fun _=>rfl) (fun _=>rfl) (LN (t:=false) (mC (Nat.zero_le _)))) (LP (y:=.int (.ofNat e)) (dM (y:=.lst (m.drop (tz m))) (dM (y:=.int (.ofNat (low+tz m))) (pO (dX (x:=jI) fun _=>rfl)) (fun _=>rfl) (LI (by lia))) (fun _=>rfl) (LJ (by rw [List.length_replicate];lia))) (fun _=>rfl) h9)))))))
theorem rY {d e:Nat}{t a v:V}{f:Nat→Rat}(he:1≤e)(he':e≤10)(hv:iU v (e+2) f)(hc:Cn (d+1) 42 [.v t,.v (.int (.ofNat (e+2))),.v a]=some (v,.un)):Cn (d+2) 43 [.v t,.v a,.v (.int (.ofNat e))]=some (v,.un):=by
 refine eS fun gG gH=>?_
 refine iY hv.ex fun low m e0 h1 h2 h3 h4=>?_
 subst e0
 refine gH ((XG.2 (Cn (d+1)) _ _ _).symm.trans (eE (s:=cK f_laurent_of.body 0) (ρ1:=[.v t,.v a,.v (.int (.ofNat e)),.v (.int 2),.un,.un]) (fun _=>rfl) (YT (fun _=>rfl) fun κ=>
  (eE (r:=[.ite (.cmp .ge (.bin .add (.subN (.var 4) 0) (.bi1 .len (.subN (.var 4) 1))) (.var 2)) [.ret (.var 4)] []]) (bU (aS (pN (fun _=>rfl) (bR (dI (i:=.ofNat e) (j:=2) (LG (x:=.int (.ofNat e)) (y:=.int 1) (fun _=>rfl) (fun _=>rfl) (adY (mC he))) (fun _=>rfl) rfl) fun _=>rfl)) hc) rfl)
   (yT (bQ (x:=.int (.ofNat (low+m.length))) (y:=.int (.ofNat e)) (dI (i:=.ofNat low) (j:=.ofNat m.length) (fun _=>rfl) (kB (x:=.lst m) (fun _=>rfl) (rU (by lia))) rfl) (fun _=>rfl) (LN (t:=false) (mC (by lia)))) fun κ=>cR (r:=[]) (κ:=κ) (q:=aC false) (ρ1:=[.v t,.v a,.v (.int (.ofNat e)),.v (.int 2),.v (.tup [.int (.ofNat low),.lst m]),.un]) fun _=>rfl)))))
theorem LQ {d e:Nat}{t v:V}{a:Rat}{f:Nat→Rat}(he:1≤e)(he':e≤10)(hv:iU v (e+2) f)(hc:Cn (d+2) 42 [.v t,.v (.int (.ofNat (e+2))),.v (LB a)]=some (v,.un)):Cn (d+4) 44 [.v t,.v (.str 17),.v (qv a),.v (.int (.ofNat e))]=some (.lst (qL e f),.un):=
 (XH.2 (Cn (d+3)) _ _ _ _).symm.trans (eE (s:=cK f_series_of.body 0) (ρ1:=[.v t,.v (.str 17),.v (qv a),.v (.int (.ofNat e)),.v (.lst (qL e f))]) (bU (fun _=>bD (rY he he' hv hc) (bD (YU (d:=d) hv (by lia)) rfl)) rfl) rfl)
theorem oH {α:Rat}(h:α∈iR): -α∈nG∧Bd (-α) 1:=by
 have:∀α∈iR, -α∈nG:=by decide+kernel
 refine ⟨this α h,?_⟩
 simp only [iR,List.mem_cons,List.not_mem_nil,or_false] at h
 rcases h with rfl|rfl|rfl|rfl|rfl|rfl|rfl
 ·exact ⟨128,by decide+kernel,by decide⟩
 ·exact ⟨64,by decide+kernel,by decide⟩
 ·exact ⟨32,by decide+kernel,by decide⟩
 ·exact ⟨0,by decide+kernel,by decide⟩
 ·exact ⟨-32,by decide+kernel,by decide⟩
 ·exact ⟨-64,by decide+kernel,by decide⟩
 ·exact ⟨-128,by decide+kernel,by decide⟩
theorem SC {α:Rat}(h:α∈iR){d:Nat}:Cn (d+31) 79 [.v (.tup [.str 2,.tup [sx,.tup [.str 3,.tup [.tup [.str 0,.int (-1),.int 1],nv α]]]])]=some (eZ (-α),.un):=by
 refine bZ (d:=d+30) ?_
 simp only [iR,List.mem_cons,List.not_mem_nil,or_false] at h
 rcases h with rfl|rfl|rfl|rfl|rfl|rfl|rfl<;>kernel_rfl
theorem BR {n:Nat}{f:Nat→Rat}:iO 0 (qL n f)=(List.range n).map fun k=>.tup [.int (.ofNat k),qv (f k)]:=by
 have:∀(n i:Nat),iO (.ofNat i) ((List.range' i n).map fun j=>qv (f j))=(List.range' i n).map fun k=>.tup [.int (.ofNat k),qv (f k)]:=by
  intro n
  induction n with
  |zero=>intro i;rfl
  |succ n ih=>intro i;exact congrArg _ (ih (i+1))
 have h:=this n 0
 rw [←List.range_eq_range'] at h
 exact h
theorem zE {d:Nat}{r:Rat}(hr:Sm r):Cn (d+3) 50 [.v (.int r.num),.v (.int r.den)]=some (nv r,.un):=by
 refine (show XJ.1 (Cn (d+2)) _ _=_ from ?_)
 exact eG (UP (d:=d) hr) rfl
theorem rZ {A:V}{f:Nat→Rat}:∀(n i:Nat),dT A i ((List.range' i n).map f)=(List.range' i n).map fun k=>mono A (f k) k
 |0,_=>rfl
 |n+1,i=>congrArg _ (rZ n (i+1))
theorem YV {k:Nat}(h:k≤100):Sm (k:Rat):=⟨by rw [Rat.num_natCast,Int.natAbs_natCast];lia,by rw [Rat.den_natCast];decide⟩
theorem YW {d k:Nat}(h:k≤100):Cn (d+3) 50 [.v (.int (.ofNat k)),.v (.int 1)]=some (nk k,.un):=by
 have:=zE (d:=d) (YV (k:=k) h)
 rw [nv,Rat.num_natCast,Rat.den_natCast] at this
 exact this
noncomputable def bT:List S:=f_taylor_term.body
noncomputable def fY (t:V)(p q:Int)(e:Nat)(s4 s5 s6 s7:aE):Fm:=[.v t,.v (.str 17),.v (.tup [.str 0,.int p,.int q]),.v (nk e),s4,s5,s6,s7]
theorem adZ (d:Nat)(β:Type)(t:V)(p r:Int)(e:Nat)(κ:Fm→Option β)(q:V→Fm→Option β):aU (aT (d+49)) glb (bT.take 3) β (fY t p r e .un .un .un .un) κ q=
  (aT (d+49) 79 [.v (.tup [.str 2,.tup [sx,.tup [.str 3,.tup [.tup [.str 0,.int (-1),.int 1],.tup [.str 0,.int p,.int r]]]]])]).bind fun z=>κ (fY t p r e (.v z.1) (.l []) .un .un):=by kernel_rfl
theorem LR (d:Nat)(k p q:Int)(u v:V):aT (d+49) 57 [.v (.tup [.str 0,.int p,.int q])]=some (.tup [.int p,.int q],.un)∧aT (d+49) 54 [.v u,.v v]=some (.tup [.str 4,u,v],.un)∧aT (d+49) 53 [.v (.lst [u,v])]=some (.tup [.str 3,.tup [u,v]],.un):=⟨by kernel_rfl,by kernel_rfl,by kernel_rfl⟩
theorem BS (d:Nat)(a b c f:V):aT (d+49) 52 [.v (.lst [a])]=some (a,.un)∧aT (d+49) 52 [.v (.lst [a,b])]=some (.tup [.str 2,.tup [a,b]],.un)∧aT (d+49) 52 [.v (.lst [a,b,c])]=some (.tup [.str 2,.tup [a,b,c]],.un)∧aT (d+49) 52 [.v (.lst [a,b,c,f])]=some (.tup [.str 2,.tup [a,b,c,f]],.un):=⟨by kernel_rfl,by kernel_rfl,by kernel_rfl,by kernel_rfl⟩
theorem YX {C:CF}{β:Type}{q:V→Fm→Option β}{t A m v w:V}{p r i j:Int}{e k:Nat}{xs:List V}(h1:C 50 [.v (.int i),.v (.int j)]=some (v,.un))(h2:C 50 [.v (.int (.ofNat k)),.v (.int 1)]=some (nk k,.un))(h3:C 54 [.v A,.v (nk k)]=some (w,.un))(h4:C 53 [.v (.lst [v,w])]=some (m,.un))(hl:xs.length≤1000):
  mO C β q (nM (cK bT 3)) (fY t p r e (.v A) (.l xs) (.v (.int (.ofNat k))) (.v (.tup [.int i,.int j]))) (fY t p r e (.v A) (.l (xs++[m])) (.v (.int (.ofNat k))) (.v (.tup [.int i,.int j]))):=
 vY (JO (xs:=xs) (aS (dX (pO (bR (aS (bR (fun _=>rfl) fun _=>rfl) h1) (aS (bR (fun _=>rfl) (aS (bR (fun _=>rfl) fun _=>rfl) h2)) h3)))) h4) rfl rfl hl rfl)
noncomputable def SD (A:V)(f:Nat→Rat)(s:List V)(k:Nat):List V:=s++[mono A (f k) k]
def ad0 (t A:V)(α:Rat)(e c:Nat)(s:List V)(ρ:Fm):Prop:=s.length+c≤10∧∃s6 s7,ρ=fY t α.num α.den e (.v A) (.l s) s6 s7
theorem LS {A:V}{f:Nat→Rat}:∀(l:List Nat) (s:List V),l.foldl (SD A f) s=s++l.map fun k=>mono A (f k) k:=fun l=>by
 induction l with
 |nil=>exact fun s=>(List.append_nil s).symm
 |cons a l ih=>exact fun s=>(ih _).trans (List.append_assoc ..)
theorem ad1 {d e:Nat}{A:V}{f:Nat→Rat}(he:e≤3):Cn (d+50) 52 [.v (.lst (dT A 0 ((List.range (e+1)).map f)))]=some (if e=0 then mono A (f 0) 0 else .tup [.str 2,.tup (dT A 0 ((List.range (e+1)).map f))],.un):=
 match e,he with
 |0,_=>(BS d _ .none .none .none).1
 |1,_=>(BS d _ _ .none .none).2.1
 |2,_=>(BS d _ _ _ .none).2.2.1
 |3,_=>(BS d _ _ _ _).2.2.2
theorem ad2 {d e:Nat}{t:V}{α:Rat}{f:Nat→Rat}{β:Type}{s4 s5 s6 s7:aE}(hs:Cn (d+50) 44 [.v t,.v (.str 17),.v (qv α),.v (.int (.ofNat (e+1)))]=some (.lst (qL (e+1) f),.un)):
  Ev (Cn (d+50)) β (.call 44 [(.var 0),(.var 1),(.call 57 [(.var 2)]),(.bin .add (.subN (.var 3) 1) (.int 1))]) (fY t α.num α.den e s4 s5 s6 s7) (.lst (qL (e+1) f)) (fY t α.num α.den e s4 s5 s6 s7):=
 aS (l:=[t,.str 17,qv α,.int (.ofNat (e+1))]) (pN (fun _=>rfl) (pN (fun _=>rfl) (bR (aS (l:=[nv α]) (fun _=>rfl) (show Cn (d+50) 57 [.v (nv α)]=some (qv α,.un) from (LR d 0 α.num α.den .none .none).1)) (dI (i:=.ofNat e) (j:=1) (fun _=>rfl) (fun _=>rfl) rfl)))) hs
theorem ad3 {d e:Nat}{t A:V}{α:Rat}{f:Nat→Rat}{β:Type}{q:V→Fm→Option β}(he:e≤3)(hf:∀j,Bd (f j) 1)(hs:Cn (d+50) 44 [.v t,.v (.str 17),.v (qv α),.v (.int (.ofNat (e+1)))]=some (.lst (qL (e+1) f),.un)):
  ∃τ,ad0 t A α e 0 ((List.range (e+1)).foldl (SD A f) []) τ∧Es (Cn (d+50)) β q (cK bT 3) (fY t α.num α.den e (.v A) (.l []) .un .un) τ:=
 gZ (val:=fun k=>V.tup [.int (.ofNat k),qv (f k)]) (L:=List.range (e+1)) (ad0 t A α e) (SD A f) 8 rfl
  (fun K=>(XS (ad2 hs) K).trans (congrArg (fun l=>K l _) BR))
  (fun _ _ _ ⟨_,_,_,e⟩=>e▸rfl) ⟨by refine (Eq.symm List.length_range)▸?_;exact Nat.le_trans (Nat.add_le_add_left (Nat.succ_le_succ he) _) (by decide),_,_,rfl⟩ (by
  rintro k hk c s ρ ⟨hc,s6,s7,rfl⟩
  rw [List.mem_range] at hk
  exact (bM _ _ ⟨fun _=>rfl,⟨by rw [SD,List.length_append,List.length_singleton];lia,_,_,rfl⟩,YX (zE (d:=d+47) ((hf k).sm (by decide))) (YW (d:=d+47) (by lia)) (LR d 0 0 0 A (nk k)).2.1 (LR d 0 0 0 _ _).2.2 (by lia)⟩))
theorem zF {d e:Nat}{t A out:V}{α:Rat}{f:Nat→Rat}(he:e≤3)(hf:∀j,Bd (f j) 1)(hs:Cn (d+50) 44 [.v t,.v (.str 17),.v (qv α),.v (.int (.ofNat (e+1)))]=some (.lst (qL (e+1) f),.un))
  (hap:Cn (d+50) 79 [.v (.tup [.str 2,.tup [sx,.tup [.str 3,.tup [.tup [.str 0,.int (-1),.int 1],nv α]]]])]=some (A,.un))
  (hfin:Cn (d+50) 79 [.v (if e=0 then mono A (f 0) 0 else .tup [.str 2,.tup (dT A 0 ((List.range (e+1)).map f))])]=some (out,.un)):
  Cn (d+51) 82 [.v t,.v (.str 17),.v (nv α),.v (nk e)]=some (out,.un):=by
 refine aD (ad3 (A:=A) (q:=aC false) he hf hs) fun τ aiR h3=>?_;obtain ⟨_,s6,s7,rfl⟩:=aiR
 refine (XO.2 (Cn (d+50)) _ _ _ _).symm.trans ((nZ (a:=bT.take 3) (b:=bT.drop 3)).trans ((adZ d _ t α.num α.den e _ _).trans (bD hap ((h3 _).trans ?_))))
 have hm:=rZ (A:=A) (f:=f) (e+1) 0
 rw [←List.range_eq_range'] at hm
 rw [LS,List.nil_append, ←hm]
 exact bD (ad1 he) (bD hfin rfl)
theorem LT {d e:Nat}{t:V}{α:Rat}{f:Nat→Rat}(hα:α∈iR)(he:e≤3)(hf:∀j,Bd (f j) 1)(hs:Cn (d+50) 44 [.v t,.v (.str 17),.v (qv α),.v (.int (.ofNat (e+1)))]=some (.lst (qL (e+1) f),.un)):
  Cn (d+51) 82 [.v t,.v (.str 17),.v (nv α),.v (nk e)]=some (dR (-α) ((List.range (e+1)).map f),.un):=by
 obtain ⟨hA,hB⟩:=oH hα
 refine zF he hf hs (SC hα (d:=d+19)) ?_
 split
 ·rename_i e0
  subst e0
  refine (rV (oF hA) (Nat.zero_le _) ((hf 0).sm (by decide)) (d:=d+20)).trans ?_
  have z1:mB (-α) 0 0 0=[]:=by unfold mB;rw [gD,gD,gD];split<;>rfl
  have z2:eH (-α) 1 0=0:=by unfold eH;rw [if_pos rfl]
  have z3:dR (-α) [f 0]=nv (f 0):=by
   refine (?_:hG (mB (-α) 0 0 0++(if f 0+eH (-α) 1 0≠0 then [nv (f 0+eH (-α) 1 0)] else []))=_)
   rw [z1,z2,Rat.add_zero]
   by_cases h:f 0=0
   ·rw [if_neg (not_not_intro h),h];rfl
   ·rw [if_pos h];rfl
  rw [show (List.range (0+1)).map f=[f 0] from rfl,z3];rfl
 ·exact wG hA hB (by rw [List.length_map,List.length_range];lia) (fun c hc=>by
   rw [List.mem_map] at hc
   obtain ⟨j,_,rfl⟩:=hc
   exact hf j) (d:=d+10)
def Bq (r:Rat):Prop:=∃m:Int,r=mkRat m 64∧m.natAbs≤2^12
theorem Bq.bd {r:Rat}(h:Bq r):Bd r 1:=by
 refine aD h fun m e h=>?_
 exact ⟨m,e,by omega⟩
theorem Bq.zero:Bq 0:=⟨0,by rw [Rat.zero_mkRat],by decide⟩
theorem Bq.add4 {r s t u:Rat}(h1:Bq r)(h2:Bq s)(h3:Bq t)(h4:Bq u):Bd (r+s+t+u) 1:=by
 obtain ⟨a,rfl,h1⟩:=h1
 obtain ⟨b,rfl,h2⟩:=h2
 obtain ⟨c,rfl,h3⟩:=h3
 obtain ⟨e,rfl,h4⟩:=h4
 have add:∀m l:Int,mkRat m 64+mkRat l 64=mkRat (m+l) 64:=by
  intro m l
  rw [Rat.mkRat_add_mkRat _ _ (by decide) (by decide),show m*(64:Nat)+l*(64:Nat)=(m+l)*(64:Nat) by rw [Int.add_mul],Rat.mkRat_mul_right (by decide)]
 refine ⟨a+b+c+e,?_,Nat.le_trans (Nat.le_trans (Int.natAbs_add_le _ _) (Nat.add_le_add (Nat.le_trans (Int.natAbs_add_le _ _) (Nat.add_le_add (Nat.le_trans (Int.natAbs_add_le a b) (Nat.add_le_add h1 h2)) h3)) h4)) (by decide)⟩
 rw [add,add,add]
noncomputable def bqB (r:Rat):Bool:=decide ((r*64).den=1) && Nat.ble (r*64).num.natAbs (2^12)
theorem YY {r:Rat}(h:bqB r=true):Bq r:=by
 refine aF (eY h) fun h1 h2=>?_
 have h1:=of_decide_eq_true h1
 refine ⟨(r*64).num,?_,Nat.le_of_ble_eq_true h2⟩
 have e:r*64=mkRat (r*64).num 1:=by
  have:=Rat.mkRat_self (r*64)
  rw [h1] at this
  exact this.symm
 have e2:r=r*64*mkRat 1 64:=by
  rw [Rat.mul_assoc,show (64:Rat)*mkRat 1 64=1 from by decide+kernel,Rat.mul_one]
 rw [e] at e2
 rw [e2]
 conv=>lhs;rw [Rat.mkRat_mul_mkRat]
 rw [←e2,Int.mul_one,Nat.one_mul]
noncomputable def nO:List Rat:=[0, -2, -1,1,2]
theorem pX {c α:Rat}{k j:Nat}(hc:c∈nO)(hα:α∈iR):Bq (c*pw α k j):=by
 have all:(nO.all fun c=>iR.all fun α=>(List.range 4).all fun k=>(List.range 4).all fun j=>bqB (c*pw α k j))=true:=by decide+kernel
 have z:pw α k j=0→Bq (c*pw α k j):=fun e=>by rw [e,Rat.mul_zero];exact Bq.zero
 by_cases h:k<4
 ·by_cases g:j<4
  ·exact YY (List.all_eq_true.mp (List.all_eq_true.mp (List.all_eq_true.mp (List.all_eq_true.mp all c hc) α hα) k (List.mem_range.mpr h)) j (List.mem_range.mpr g))
  ·exact z (BN (Nat.lt_of_lt_of_le h (Nat.le_of_not_lt g)))
 ·refine aR (Nat.exists_eq_add_of_le' (Nat.le_of_not_lt h)) fun n aiS=>?_;subst aiS
  exact z rfl
noncomputable def jJ (α c0 c1 c2 c3:Rat)(j:Nat):Rat:=c3*pw α 3 j+c2*pw α 2 j+c1*pw α 1 j+c0*pw α 0 j
theorem tY {α c0 c1 c2 c3:Rat}(hα:α∈iR)(h0:c0∈nO)(h1:c1∈nO)(h2:c2∈nO)(h3:c3∈nO)(j:Nat):Bd (jJ α c0 c1 c2 c3 j) 1:=
 (pX h3 hα).add4 (pX h2 hα) (pX h1 hα) (pX h0 hα)
theorem LU (α c:Rat)(j:Nat):YP c j=c*pw α 0 j:=by
 unfold YP
 cases j with
 |zero=>refine (Eq.symm (if_pos rfl))▸?_;exact (Rat.mul_one c).symm
 |succ j=>refine (Eq.symm (if_neg (Nat.succ_ne_zero j)))▸?_;exact (Rat.mul_zero c).symm
noncomputable def pY (α:Rat)(k:Nat)(c:Rat):List uX:=if c=0 then [] else [⟨wn c (rk sx k),fun j=>c*pw α k j⟩]
noncomputable def wK (c:Rat):List uX:=if c=0 then [] else [⟨nv c,YP c⟩]
noncomputable def wL (α c0 c1 c2 c3:Rat):List uX:=pY α 3 c3++(pY α 2 c2++pY α 1 c1)++wK c0
theorem kY {α c:Rat}{k:Nat}{F:Nat→Rat}:(pY α k c).foldl (fun F p=>fun j=>F j+p.f j) F=fun j=>F j+c*pw α k j:=by
 unfold pY
 split
 ·rename_i h;subst h;funext j;rw [Rat.zero_mul,Rat.add_zero];rfl
 ·rfl
theorem zG {α c:Rat}{F:Nat→Rat}:(wK c).foldl (fun F p=>fun j=>F j+p.f j) F=fun j=>F j+c*pw α 0 j:=by
 unfold wK
 split
 ·rename_i h;subst h;funext j;rw [Rat.zero_mul,Rat.add_zero];rfl
 ·funext j;rw [←LU];rfl
theorem zH {α c0 c1 c2 c3:Rat}:(wL α c0 c1 c2 c3).foldl (fun F p=>fun j=>F j+p.f j) (fun _=>0)=jJ α c0 c1 c2 c3:=by
 unfold wL
 rw [List.foldl_append,List.foldl_append,List.foldl_append,kY,kY,kY,zG (α:=α)]
 funext j
 dsimp only
 rw [Rat.zero_add];rfl
theorem YZ {c:Rat}(h:c∈nO)(h0:c≠0):c∈cfs:=by
 cases h with
 |head=>exact absurd rfl h0
 |tail _ h=>exact h
theorem SE {α c0 c1 c2 c3:Rat}{n d:Nat}(hα:α∈iR)(h0:c0∈nO)(h1:c1∈nO)(h2:c2∈nO)(h3:c3∈nO)(hn:n=3∨n=4∨n=5∨n=6):
  ∀p∈wL α c0 c1 c2 c3,(∀j,Bd (p.f j) 1)∧∃v,Cn (d+21) 42 [.v p.v,.v (.int n),.v (LB α)]=some (v,.un)∧iU v n p.f:=by
 have hk:∀k c,c∈nO→k=1∨k=2∨k=3→∀p∈pY α k c,(∀j,Bd (p.f j) 1)∧∃v,Cn (d+21) 42 [.v p.v,.v (.int n),.v (LB α)]=some (v,.un)∧iU v n p.f:=by
  intro k c hc hk p hp
  unfold pY at hp
  split at hp
  ·cases hp
  ·rename_i c0
   rw [List.mem_singleton] at hp;subst hp
   exact ⟨fun j=>(pX hc hα).bd,anC hα (YZ hc c0) hk hn⟩
 intro p hp
 unfold wL at hp
 rcases List.mem_append.mp hp with hp|hp
 ·rcases List.mem_append.mp hp with hp|hp
  ·exact hk 3 c3 h3 (by decide) p hp
  ·rcases List.mem_append.mp hp with hp|hp
   ·exact hk 2 c2 h2 (by decide) p hp
   ·exact hk 1 c1 h1 (by decide) p hp
 ·unfold wK at hp
  split at hp
  ·cases hp
  ·rw [List.mem_singleton] at hp;subst hp
   refine ⟨fun j=>by show Bd (YP c0 j) 1;rw [LU α];exact (pX h0 hα).bd,_,wI hn,iU.low0 (by lia)⟩
theorem LV {α c0 c1 c2 c3:Rat}:(wL α c0 c1 c2 c3).length≤4:=by
 have hk:∀k c,(pY α k c).length≤1:=by
  intro k c
  unfold pY
  split<;>exact Nat.le_of_ble_eq_true rfl
 have h0:(wK c0).length≤1:=by
  unfold wK
  split<;>exact Nat.le_of_ble_eq_true rfl
 have h1:=hk 1 c1;have h2:=hk 2 c2;have h3:=hk 3 c3
 simp only [wL,List.length_append];lia
theorem EW {α c0 c1 c2 c3:Rat}{cs:List Rat}(e0:cs.getD 0 0=c0)(e1:cs.getD 1 0=c1)(e2:cs.getD 2 0=c2)(e3:cs.getD 3 0=c3):dR 0 cs=hG ((wL α c0 c1 c2 c3).map uX.v):=by
 have ns:∀k c,¬pS 0 k c:=fun k c s=>s.2.2 rfl
 have hk:∀k c,(pY α k c).map uX.v=mH 0 k c:=by
  intro k c
  unfold pY mH
  split
  ·rfl
  ·rw [if_neg (ns k c)];rfl
 have hN:∀c,eH 0 1 c=0:=by
  intro c
  unfold eH
  split
  ·rfl
  ·rw [if_neg (ns _ _)]
 have h0:(wK c0).map uX.v=if c0≠0 then [nv c0] else []:=by
  unfold wK
  by_cases h:c0=0
  ·rw [if_pos h,if_neg (not_not_intro h)];rfl
  ·rw [if_neg h,if_pos h];rfl
 rw [dR,e0,e1,e2,e3,hN,Rat.add_zero,mB,if_neg (ns _ _),wL,List.map_append,List.map_append,List.map_append,hk,hk,hk,h0]
theorem LW {α:Rat}{n d:Nat}{L:List uX}(hn:n=3∨n=4∨n=5∨n=6)(hL:L.length≤8)(h:∀d:Nat,∀p∈L,(∀j,Bd (p.f j) 1)∧∃v,Cn (d+21) 42 [.v p.v,.v (.int n),.v (LB α)]=some (v,.un)∧iU v n p.f):
  ∃v,Cn (d+22) 42 [.v (hG (L.map uX.v)),.v (.int n),.v (LB α)]=some (v,.un)∧iU v n (L.foldl (fun F p=>fun j=>F j+p.f j) fun _=>0):=by
 match L,hL,h with
 |[],_,_=>
  refine ⟨_,wI (d:=d+1) (c:=0) hn,?_⟩
  have e:YP 0=fun _=>0:=by funext j;unfold YP;split<;>rfl
  refine (Eq.symm e)▸?_
  exact iU.low0 (by lia)
 |[p],_,h=>
  obtain ⟨_,v,e,ht⟩:=h (d+1) p (.head _)
  refine ⟨v,e,?_⟩
  have:(fun j=>0+p.f j)=p.f:=by funext j;rw [Rat.zero_add]
  refine (Eq.symm List.foldl_cons)▸?_;refine (Eq.symm this)▸?_
  exact ht
 |p::q::r,hL,h=>
  have q1:=LK (a:=LB α) hn hL (h d)
  have q2:hG ((p::q::r).map uX.v)=.tup [.str 2,.tup ((p::q::r).map uX.v)]:=rfl
  refine (Eq.symm q2)▸?_
  exact ⟨_,q1,iU.low0 (by lia)⟩
theorem sA {α c0 c1 c2 c3:Rat}{n d:Nat}{cs:List Rat}(hα:α∈iR)(h0:c0∈nO)(h1:c1∈nO)(h2:c2∈nO)(h3:c3∈nO)(hn:n=3∨n=4∨n=5∨n=6)
  (e0:cs.getD 0 0=c0) (e1:cs.getD 1 0=c1) (e2:cs.getD 2 0=c2) (e3:cs.getD 3 0=c3):
  ∃v,Cn (d+22) 42 [.v (dR 0 cs),.v (.int n),.v (LB α)]=some (v,.un)∧iU v n (jJ α c0 c1 c2 c3):=by
 have:=LV (α:=α) (c0:=c0) (c1:=c1) (c2:=c2) (c3:=c3)
 refine (Eq.symm (EW (α:=α) e0 e1 e2 e3))▸?_;refine zH▸?_
 exact LW hn (by lia) fun d=>SE hα h0 h1 h2 h3 hn
theorem wM {α c0 c1 c2 c3:Rat}{e d:Nat}{cs:List Rat}(hα:α∈iR)(he:e≤3)(h0:c0∈nO)(h1:c1∈nO)(h2:c2∈nO)(h3:c3∈nO)
  (e0:cs.getD 0 0=c0) (e1:cs.getD 1 0=c1) (e2:cs.getD 2 0=c2) (e3:cs.getD 3 0=c3):
  Cn (d+51) 82 [.v (dR 0 cs),.v (.str 17),.v (nv α),.v (nk e)]=some (dR (-α) ((List.range (e+1)).map (jJ α c0 c1 c2 c3)),.un):=by
 refine aD (sA (n:=e+1+2) (d:=d+26) hα h0 h1 h2 h3 (by lia) e0 e1 e2 e3) fun v hv ht=>?_
 have hv':Cn (d+46+2) 42 [.v (dR 0 cs),.v (.int (.ofNat (e+1+2))),.v (LB α)]=some (v,.un):=hv
 generalize ho:dR 0 cs=t at hv'
 have hs:=LQ (d:=d+46) (e:=e+1) (t:=t) (a:=α) (by lia) (by lia) ht hv'
 have hb:=tY hα h0 h1 h2 h3
 generalize jJ α c0 c1 c2 c3=f at hb hs ht ⊢
 exact LT hα he hb hs
theorem anE:Nat.beq (0+1+1) (0+1+1)=true:=rfl
theorem BT {β:Type}{i:Int}{g:Nat}{k:V→Option β}(h:g≠0)(hg:g<2^40):AE (.int i) (.int (.ofNat g)) k=k (.int (Int.fdiv i (.ofNat g))):=by
 refine (?_:cond (iW (.ofNat g) 0) none (cond (Nat.blt (Int.natAbs (.ofNat g)) 18446744073709551616) (lE _ _) none)=_)
 refine (Eq.symm (AZ h))▸?_;refine (Eq.symm (show Nat.blt (Int.natAbs (.ofNat g)) 18446744073709551616=true from Nat.blt_eq.mpr (show g<18446744073709551616 from Nat.lt_of_lt_of_le hg (by decide))))▸?_
 rw [aN,aI,eA]
theorem mD {d:Nat}{i:Int}{j:Nat}(hj:j≠0)(hb:j<2^40):Cn (d+2) 84 [.v (.int i),.v (.int j)]=some (qv (mkRat i j),.un):=by
 refine (show QQ.1 (Cn (d+1)) _ _=_ from ?_)
 simp only [QQ,anE,aI,Int.natAbs_natCast]
 have hgl:Nat.gcd i.natAbs j<2^40:=Nat.lt_of_le_of_lt (Nat.gcd_le_right _ (by lia)) hb
 have hg0:Nat.gcd i.natAbs j≠0:=fun h=>hj (Nat.gcd_eq_zero_iff.mp h).2
 refine (vZ (fr:=fun x y=>[.v (.int i),.v (.int (j:Int)),.v (.int (.ofNat x)),.v (.int (.ofNat y))]) ?_ ?_ 40 100 i.natAbs j hb (by decide)).trans ?_
 ·intro x again stop;rfl
 ·intro x y again stop h
  cases y with
  |zero=>exact absurd rfl h
  |succ y=>
   refine (?_:(lE (Int.fmod (.ofNat x) (.ofNat (y+1))) fun z=>again [.v (.int i),.v (.int (j:Int)),.v (.int (.ofNat (y+1))),.v (.int z)])=_)
   rw [eA]
   cases x with
   |zero=>rw [Nat.zero_mod];rfl
   |succ x=>rfl
 ·have l0:∀{β:Type} (q:Bool→Option β),qO (.int 0) (.int (j:Int)) q=q true:=by
   intro β q
   refine (?_:q (Nat.blt 0 j)=_)
   rw [Nat.blt_eq.mpr (by lia)]
  simp only [l0,dG,aI,aB,BT hg0 hgl]
  have h1:(mkRat i j).num=Int.fdiv i (Int.ofNat (Nat.gcd i.natAbs j)):=by
   rw [Rat.num_mkRat,if_neg hj,Nat.gcd_comm,Int.ofNat_eq_natCast,Int.fdiv_eq_ediv_of_nonneg _ (Int.natCast_nonneg _)]
  have h2:((mkRat i j).den:Int)=Int.fdiv j (Int.ofNat (Nat.gcd i.natAbs j)):=by
   rw [Rat.den_mkRat,if_neg hj,Nat.gcd_comm,Int.ofNat_eq_natCast,Int.fdiv_eq_ediv_of_nonneg _ (Int.natCast_nonneg _)];rfl
  rw [qv,h1,h2]
def Sl (r:Rat):Prop:=r.num.natAbs<2^40∧r.den<2^19
theorem Sl.d40 {r:Rat}(h:Sl r):((r.den:Int)).natAbs<2^40:=by rw [Int.natAbs_natCast];exact Nat.lt_of_lt_of_le h.2 (by decide)
theorem ad4 {r s:Rat}(hr:r.den<2^19)(hs:s.den<2^19):r.den*s.den≠0∧r.den*s.den<2^40:=by
 refine ⟨Nat.mul_ne_zero r.den_nz s.den_nz,?_⟩
 have h:r.den*s.den≤2^19*2^19:=Nat.mul_le_mul (Nat.le_of_lt hr) (Nat.le_of_lt hs)
 exact Nat.lt_of_le_of_lt h (by decide)
theorem pZ {d:Nat}{r:Rat}{p:Int}{q:Nat}(hr:Sl r)(hp:p.natAbs<2^40)(hq:q≠0)(hq':q<2^19):Cn (d+3) 85 [.v (qv r),.v (.tup [.int p,.int q])]=some (qv (r+mkRat p q),.un):=
 have h1:r.den*q≠0:=Nat.mul_ne_zero r.den_nz hq
 have h2:r.den*q<2^40:=Nat.lt_of_le_of_lt (Nat.mul_le_mul (Nat.le_of_lt hr.2) (Nat.le_of_lt hq')) (by decide:2^19*2^19<2^40)
 have e:mkRat (r.num*q+p*r.den) (r.den*q)=r+mkRat p q:=by
  conv=>rhs;rw [←Rat.mkRat_self r]
  rw [Rat.mkRat_add_mkRat _ _ r.den_nz hq]
 (XP.2 (Cn (d+2)) _ _).symm.trans<|cR (r:=[]) (ρ1:=[.v (qv r),.v (.tup [.int p,.int q])]) (κ:=aC false .none) (q:=aC false)<|
  aS (bR (dI (dN (fun _=>rfl) (fun _=>rfl) hr.1) (dN (fun _=>rfl) (fun _=>rfl) hp) rfl) (dN (i:=r.den) (j:=q) (fun _=>rfl) (fun _=>rfl) hr.d40))<|
  e▸mD (i:=r.num*q+p*r.den) h1 h2
theorem LX {d:Nat}{r s:Rat}(hr:Sl r)(hs:Sl s):Cn (d+3) 85 [.v (qv r),.v (qv s)]=some (qv (r+s),.un):=
 (pZ hr hs.1 s.den_nz hs.2).trans (congrArg (fun s=>some (qv (r+s),aE.un)) (Rat.mkRat_self s))
theorem LY {C:CF}{β:Type}{a b:E}{ρ ρ1 ρ2:Fm}{i:Int}{k:Nat}(h:Ev C β a ρ (.int i) ρ1)(g:Ev C β b ρ1 (.int (.ofNat k)) ρ2)(hk:k≤1000000)(hi:i.natAbs<2^40):Ev C β (.bin .pow a b) ρ (.int (i^k)) ρ2:=
 dM h g fun K=>(congrArg (cond · _ none) (cS hk)).trans ((congrArg (cond · _ none) (JQ hi)).trans (eA (Int.pow i k) fun z=>K (.int z)))
theorem qA {d k:Nat}{r:Rat}(hr:Sl r)(hk:k≤10)(hd:r.den^k<2^40):Cn (d+3) 86 [.v (qv r),.v (.int (.ofNat k))]=some (qv (r^k),.un):=by
 have hk':k≤1000000:=Nat.le_trans hk (by decide)
 have e:((r.den:Int)^k)=((r.den^k:Nat):Int):=(Int.natCast_pow _ _).symm
 have e2:mkRat (r.num^k) (r.den^k)=r^k:=by rw [←Rat.num_pow, ←Rat.den_pow];exact Rat.mkRat_self _
 refine (XQ.2 (Cn (d+2)) _ _).symm.trans (cR (r:=[]) (ρ1:=[.v (qv r),.v (.int (.ofNat k))]) (κ:=aC false .none) (q:=aC false) ?_)
 refine gB (t:=true) rfl (bQ (x:=.int (.ofNat k)) (y:=.int 0) (fun _=>rfl) (fun _=>rfl) fun K=>congrArg (fun t=>K (.bool (not t))) (show lD (.ofNat k) 0=false from mC (Nat.zero_le k))) (aS (sl:=.un) (bR (LY (fun _=>rfl) (fun _=>rfl) hk' hr.1) (LY (i:=r.den) (fun _=>rfl) (fun _=>rfl) hk' hr.d40)) ?_)
 refine (congrArg (fun z=>Cn (d+2) 84 [.v (.int (r.num^k)),.v (.int z)]) e).trans ?_
 exact e2▸mD (d:=d) (Nat.pos_iff_ne_zero.mp (Nat.pow_pos (Nat.pos_of_ne_zero r.den_nz))) hd
def tZ (d:Nat)(v:V)(x:Int)(r:Rat):Prop:=Cn (d+2) 88 [.v v,.v (.int x)]=some (qv r,.un)
theorem uA {d:Nat}{c:Rat}{x:Int}:tZ d (nv c) x c:=by
 refine (show yR.1 (Cn (d+1)) _ _=_ from ?_)
 rfl
theorem ZA {d:Nat}{x:Int}:tZ d sx x (x:Rat):=by
 refine (show yR.1 (Cn (d+1)) _ _=_ from ?_)
 rfl
theorem SG {d k:Nat}{A:V}{x:Int}{r:Rat}(h:tZ (d+1) A x r)(hr:Sl r)(hk:k≤10)(hd:r.den^k<2^40):tZ (d+2) (.tup [.str 4,A,nk k]) x (r^k):=
 (yR.2 (Cn (d+3)) _ _).symm.trans<|eE (s:=cK f_law_value.body 0) (ρ1:=[.v (.tup [.str 4,A,nk k]),.v (.int x),.un,.un,.un]) (fun _=>rfl)<|eE (ρ1:=[.v (.tup [.str 4,A,nk k]),.v (.int x),.un,.un,.un]) (fun _=>rfl)<|
  yT (ρ1:=[.v (.tup [.str 4,A,nk k]),.v (.int x),.un,.un,.un]) (fun _=>rfl) fun κ=>cR (r:=[]) (ρ1:=[.v (.tup [.str 4,A,nk k]),.v (.int x),.un,.un,.un]) (κ:=κ) (q:=aC false)<|
  aS (bR (aS (bR (fun _=>rfl) fun _=>rfl) h) fun _=>rfl) (qA (d:=d) hr hk hd)
def Bv (r:Rat)(n:Nat):Prop:=∃m:Int,r=mkRat m 512∧m.natAbs≤n*2^26
theorem Bv.sl {r:Rat}{n:Nat}(h:Bv r n)(hn:n≤16):Sl r:=by
 refine aD h fun m aiT hm=>?_;subst aiT
 constructor
 ·refine Nat.lt_of_le_of_lt (tR m 512) ?_
  have:n*2^26≤16*2^26:=Nat.mul_le_mul_right _ hn
  lia
 ·exact Nat.lt_of_le_of_lt (mS m (by decide)) (by decide)
theorem Bv.add {r s:Rat}{n k:Nat}(h:Bv r n)(g:Bv s k):Bv (r+s) (n+k):=by
 refine aD h fun m aiU hm=>?_;subst aiU
 refine aD g fun l aiV hl=>?_;subst aiV
 refine ⟨m+l,?_,?_⟩
 ·rw [Rat.mkRat_add_mkRat _ _ (by decide) (by decide),show m*(512:Nat)+l*(512:Nat)=(m+l)*(512:Nat) by rw [Int.add_mul],Rat.mkRat_mul_right (by decide)]
 ·rw [Nat.add_mul];exact Nat.le_trans (Int.natAbs_add_le _ _) (Nat.add_le_add hm hl)
theorem Bv.zero (n:Nat):Bv 0 n:=⟨0,by rw [Rat.zero_mkRat],Nat.zero_le _⟩
theorem Bv.mono {r:Rat}{n k:Nat}(h:Bv r n)(g:n≤k):Bv r k:=by
 refine aD h fun m e hm=>?_
 exact ⟨m,e,Nat.le_trans hm (Nat.mul_le_mul_right _ g)⟩
noncomputable def fV (t x:V)(s2 s3 s4:aE):Fm:=[.v t,.v x,s2,s3,s4]
noncomputable def vB:List S:=f_law_value.body
noncomputable def vB4:List S:=nM (cK vB 4)
section
variable {C:CF}{β:Type}{q:V→Fm→Option β}{x u w:V}{i j k l:Int}{s3 s4:aE}{vs:List V}{c r:Rat}{d:Nat}{X:Int}
theorem BU (h88:C 88 [.v u,.v x]=some (.tup [.int k,.int l],.un))(h84:C 84 [.v (.int (Int.mul i k)),.v (.int (Int.mul j l))]=some (w,.un))(b1:i.natAbs<2^40)(b2:j.natAbs<2^40):
  mO C β q vB4 (fV (.tup [.str 3,.tup vs]) x (.v (.tup [.int i,.int j])) (.v u) s4) (fV (.tup [.str 3,.tup vs]) x (.v w) (.v u) (.v (.tup [.int k,.int l]))):=
 iE (bU (aS (fun _=>rfl) h88) rfl) (bU (gB (t:=false) rfl (fun _=>rfl) (aS (bR (dN (i:=i) (j:=k) (fun _=>rfl) (fun _=>rfl) b1) (dN (i:=j) (j:=l) (fun _=>rfl) (fun _=>rfl) b2)) h84)) rfl)
theorem ZB {F F' v:V}(h88:C 88 [.v u,.v x]=some (v,.un))(h85:C 85 [.v F,.v v]=some (F',.un)):mO C β q vB4 (fV (.tup [.str 2,.tup vs]) x (.v F) (.v u) s4) (fV (.tup [.str 2,.tup vs]) x (.v F') (.v u) (.v v)):=
 iE (bU (aS (fun _=>rfl) h88) rfl) (bU (fun _=>bD (bD h85 rfl) rfl) rfl)
theorem SI {xs:List Nat}{sr:Sr}{b:List S}{ρ ρ0 ρ1 ρ2 ρ3 ρ4:Fm}{y z:V}{n:Nat}(hr:∀K:List V→Fm→Option β,gJ C glb sr β ρ K=K [y,z] ρ0)(h0:ρ.length=n)(l0:ρ0.length=n)(l1:ρ2.length=n)(l2:ρ4.length=n)(b1:∀K:Fm→Option β,bE xs y ρ0 K=K ρ1)(e1:mO C β q b ρ1 ρ2)(b2:∀K:Fm→Option β,bE xs z ρ2 K=K ρ3)(e2:mO C β q b ρ3 ρ4):Es C β q (.for xs sr b) ρ ρ4:=fun κ=>by
 subst h0
 exact (hr _).trans ((fO l0).trans ((b1 _).trans ((e1 _).trans ((fO l1).trans ((b2 _).trans ((e2 _).trans (fO l2)))))))
theorem LZ {R:V}(h:tZ (d+1) R X r)(hc:Sl c)(hr:Sl r):tZ (d+2) (.tup [.str 3,.tup [nv c,R]]) X (c*r):=by
 have e:=ad4 hc.2 hr.2
 have r1:Cn (d+3) 84 [.v (.int (Int.mul 1 c.num)),.v (.int (Int.mul 1 c.den))]=some (qv c,.un):=by
  rw [show Int.mul 1 c.num=c.num from Int.one_mul _,show Int.mul 1 (c.den:Int)=c.den from Int.one_mul _,mD (d:=d+1) c.den_nz (Nat.lt_of_lt_of_le hc.2 (by decide)),Rat.mkRat_self]
 have r2:Cn (d+3) 84 [.v (.int (Int.mul c.num r.num)),.v (.int (Int.mul c.den r.den))]=some (qv (c*r),.un):=by
  rw [show Int.mul c.den r.den=((c.den*r.den:Nat):Int) from (Int.natCast_mul _ _).symm,mD (d:=d+1) e.1 e.2,Rat.mul_def'];rfl
 refine (yR.2 (Cn (d+3)) _ _).symm.trans ((lT (a:=vB.take 5) (b:=[cK vB 5]) (dJ (fun _=>rfl) (dJ (fun _=>rfl) (dJ (fun _=>rfl) (iE (bU (v:=.tup [.int 1,.int 1]) (fun _=>rfl) rfl) (SI (n:=5) (y:=nv c) (z:=R) (ρ4:=fV (.tup [.str 3,.tup [nv c,R]]) (.int X) (.v (qv (c*r))) (.v R) (.v (qv r))) (fun _=>rfl) rfl rfl rfl rfl (fun _=>rfl) (BU (k:=c.num) (l:=c.den) (uA (d:=d+1)) r1 (by decide) (by decide)) (fun _=>rfl) (BU (k:=r.num) (l:=r.den) h r2 hc.1 hc.d40))))))).trans rfl)
end
structure uB where
 v:V
 r:Rat
def anG (L:List uB)(X:Int)(c:Nat)(s:Rat)(ρ:Fm):Prop:=(c≤8∧Bv s (8 - c))∧∃s3 s4,ρ=fV (.tup [.str 2,.tup (L.map uB.v)]) (.int X) (.v (qv s)) s3 s4
noncomputable def ad5 (s:Rat)(p:uB):Rat:=s+p.r
theorem SJ {d:Nat}{L:List uB}{x:Int}(hL:L.length≤8)(h:∀p∈L,tZ (d+1) p.v x p.r∧Bv p.r 1):tZ (d+2) (.tup [.str 2,.tup (L.map uB.v)]) x (L.foldl (fun s p=>s+p.r) 0):=by
 obtain ⟨τ,⟨_,s3,s4,rfl⟩,e⟩:=gZ (C:=Cn (d+3)) (q:=aC false) (xs:=[3]) (sr:=.val (.subN (.var 0) 1)) (b:=vB4) (ρ:=fV (.tup [.str 2,.tup (L.map uB.v)]) (.int x) (.v (qv 0)) .un .un) (val:=uB.v) (L:=L) (s:=(0:Rat)) (anG L x) ad5 5 rfl (fun _=>rfl) (fun _ _ _ ⟨_,_,_,e⟩=>e▸rfl) ⟨⟨hL,Bv.zero _⟩,_,_,rfl⟩ (by
  rintro p hp c s ρ ⟨⟨hc,hs⟩,s3,s4,rfl⟩
  refine aF (h p hp) fun h1 h2=>?_
  exact (bM _ _ ⟨fun _=>rfl,⟨⟨Nat.le_of_succ_le hc,(hs.add h2).mono (lU hc)⟩,_,_,rfl⟩,ZB h1 (LX (d:=d) (hs.sl (eP (by decide))) (h2.sl (by decide)))⟩))
 exact (yR.2 (Cn (d+3)) _ _).symm.trans ((lT (a:=vB.take 5) (b:=[cK vB 5]) (ρ1:=fV (.tup [.str 2,.tup (L.map uB.v)]) (.int x) (.v (qv (L.foldl ad5 0))) s3 s4) (dJ (fun _=>rfl) (dJ (fun _=>rfl) (dJ (fun _=>rfl) (iE (bU (v:=.tup [.int 0,.int 1]) (fun _=>rfl) rfl) e))))).trans rfl)
theorem tZ.up {d:Nat}{L:List uB}{x:Int}(hL:L.length≤8)(h:∀d,∀p∈L,tZ (d+7) p.v x p.r∧Bv p.r 1):tZ (d+8) (hG (L.map uB.v)) x (L.foldl (fun s p=>s+p.r) 0):=by
 match L,hL,h with
 |[],_,_=>exact uA (c:=0)
 |[p],_,h=>
  have q:=(h (d+1) p (.head _)).1
  refine (Eq.symm (show ([p].foldl (fun s p=>s+p.r) 0)=p.r from Rat.zero_add _))▸?_
  exact q
 |p::q::r,hL,h=>
  have q1:=SJ (d:=d+6) hL (h d)
  have q2:hG ((p::q::r).map uB.v)=.tup [.str 2,.tup ((p::q::r).map uB.v)]:=rfl
  refine (Eq.symm q2)▸?_
  exact q1
noncomputable def zI:List Int:=[0,2,5]
theorem MA {a:Rat}{x:Int}(ha:a∈nG)(hx:x∈zI){d:Nat}:tZ (d+4) (eZ a) x ((x:Rat)+a):=by
 refine bZ (d:=d+5) ?_
 simp only [nG,zI,List.mem_cons,List.not_mem_nil,or_false] at ha hx
 rcases hx with rfl|rfl|rfl<;>rcases ha with rfl|rfl|rfl|rfl|rfl|rfl|rfl<;>kernel_rfl
noncomputable def b8 (r:Rat):Bool:=decide ((r*8).den=1) && Nat.ble (r*8).num.natAbs (2^12)
theorem ad6 {r:Rat}(h:b8 r=true):∃m:Int,r=mkRat m 8∧m.natAbs≤2^12:=by
 refine aF (eY h) fun h1 h2=>?_
 have h1:=of_decide_eq_true h1
 refine ⟨(r*8).num,?_,Nat.le_of_ble_eq_true h2⟩
 have e:r*8=mkRat (r*8).num 1:=by
  have:=Rat.mkRat_self (r*8)
  rw [h1] at this
  exact this.symm
 have e2:r=r*8*mkRat 1 8:=by
  rw [Rat.mul_assoc,show (8:Rat)*mkRat 1 8=1 from by decide+kernel,Rat.mul_one]
 rw [e] at e2
 rw [e2]
 conv=>lhs;rw [Rat.mkRat_mul_mkRat]
 rw [←e2,Int.mul_one,Nat.one_mul]
theorem jK {a:Rat}{x:Int}{k:Nat}(ha:a∈nG)(hx:x∈zI)(hk:k≤3):∃m:Int,((x:Rat)+a)^k=mkRat m 8∧m.natAbs≤2^12:=by
 have all:(nG.all fun a=>zI.all fun x=>(List.range 4).all fun k=>b8 (((x:Rat)+a)^k))=true:=by decide+kernel
 exact ad6 (List.all_eq_true.mp (List.all_eq_true.mp (List.all_eq_true.mp all a ha) x hx) k (List.mem_range.mpr (by lia)))
theorem SK {r:Rat}(h:∃m:Int,r=mkRat m 8∧m.natAbs≤2^12):Sl r:=by
 refine aD h fun m aiW hm=>?_;subst aiW
 exact ⟨Nat.lt_of_le_of_lt (tR m 8) (by lia),Nat.lt_of_le_of_lt (mS m (by decide)) (by decide)⟩
theorem MB {c r:Rat}(hc:Bd c 1)(h:∃m:Int,r=mkRat m 8∧m.natAbs≤2^12):Bv (c*r) 1:=by
 refine aD hc fun l aiX hl=>?_;subst aiX
 refine aD h fun m aiY hm=>?_;subst aiY
 refine ⟨l*m,by rw [Rat.mkRat_mul_mkRat],?_⟩
 rw [Int.natAbs_mul]
 have:l.natAbs*m.natAbs≤2^14*2^12:=Nat.mul_le_mul (by omega) hm
 omega
theorem ZC {a:Rat}{x:Int}{k:Nat}(ha:a∈nG)(hx:x∈zI)(k1:1≤k)(k3:k≤3){d:Nat}:tZ (d+6) (rk (eZ a) k) x (((x:Rat)+a)^k):=by
 unfold rk
 by_cases h:k=1
 ·subst h
  rw [if_pos rfl,Rat.pow_one]
  exact MA ha hx (d:=d+2)
 ·rw [if_neg h]
  have hs:Sl ((x:Rat)+a):=by
   have:=SK (jK ha hx (show 1≤3 by decide))
   rw [Rat.pow_one] at this
   exact this
  refine SG (MA ha hx (d:=d+1)) hs (by lia) ?_
  have:=(SK (jK ha hx k3)).2
  rw [Rat.den_pow] at this
  exact Nat.lt_of_lt_of_le this (by decide)
theorem ZD {d:Nat}{c r:Rat}{R:V}{x:Int}(h:∀d,tZ (d+6) R x r)(c0:c≠0)(hc:Sl c)(hr:Sl r):tZ (d+7) (wn c R) x (c*r):=by
 unfold wn
 rw [if_neg c0]
 by_cases c1:c=1
 ·rw [if_pos c1,c1,Rat.one_mul];exact h (d+1)
 ·rw [if_neg c1];exact LZ (d:=d+5) (h d) hc hr
noncomputable def uC (a:Rat)(x:Int)(k:Nat)(c:Rat):List uB:=if c=0 then [] else if pS a k c then [⟨sx,x⟩] else [⟨wn c (rk (eZ a) k),c*((x:Rat)+a)^k⟩]
noncomputable def nI (N:Rat):List uB:=if N≠0 then [⟨nv N,N⟩] else []
noncomputable def zJ (a:Rat)(x:Int)(c1 c2 c3:Rat):List uB:=if pS a 1 c1 then uC a x 1 c1++(uC a x 3 c3++uC a x 2 c2) else uC a x 3 c3++(uC a x 2 c2++uC a x 1 c1)
theorem uD {a:Rat}{x:Int}{k:Nat}{c:Rat}:(uC a x k c).map uB.v=mH a k c:=by
 unfold uC mH
 split
 ·rfl
 ·split<;>rfl
theorem ZE {N:Rat}:(nI N).map uB.v=if N≠0 then [nv N] else []:=by
 unfold nI
 split<;>rfl
theorem MC {a:Rat}{x:Int}{c1 c2 c3:Rat}:(zJ a x c1 c2 c3).map uB.v=mB a c1 c2 c3:=by
 unfold zJ mB
 split<;>rw [List.map_append,List.map_append,uD,uD,uD]
theorem jL {a:Rat}{x:Int}{k:Nat}{c s:Rat}(h:¬pS a k c):(uC a x k c).foldl (fun s p=>s+p.r) s=s+c*((x:Rat)+a)^k:=by
 unfold uC
 split
 ·rename_i c0;subst c0;rw [Rat.zero_mul,Rat.add_zero];rfl
 ·rfl
theorem MD {a:Rat}{x:Int}{k:Nat}{c s:Rat}(h:pS a k c):(uC a x k c).foldl (fun s p=>s+p.r) s=s+x:=by
 unfold uC
 have c0:c≠0:=by rw [h.2.1];decide
 rw [if_neg c0,if_pos h];rfl
theorem BV {N s:Rat}:(nI N).foldl (fun s p=>s+p.r) s=s+N:=by
 unfold nI
 by_cases h:N=0
 ·rw [if_neg (not_not_intro h),h,Rat.add_zero];rfl
 ·rw [if_pos h];rfl
noncomputable def SL (y c0 c1 c2 c3:Rat):Rat:=c3*y^3+c2*y^2+c1*y^1+c0
theorem ME {a:Rat}{x:Int}{c0 c1 c2 c3:Rat}:(zJ a x c1 c2 c3++nI (c0+eH a 1 c1)).foldl (fun s p=>s+p.r) 0=SL ((x:Rat)+a) c0 c1 c2 c3:=by
 have n2:∀c,¬pS a 2 c:=fun c h=>absurd h.1 (by decide)
 have n3:∀c,¬pS a 3 c:=fun c h=>absurd h.1 (by decide)
 unfold zJ SL
 by_cases h:pS a 1 c1
 ·have hn:eH a 1 c1=a:=by
   unfold eH
   rw [if_neg (by rw [h.2.1];decide),if_pos h]
  rw [if_pos h,List.foldl_append,List.foldl_append,List.foldl_append,MD h,jL (n3 _),jL (n2 _),BV,hn,h.2.1,Rat.zero_add,Rat.one_mul,Rat.pow_one]
  simp only [Rat.add_assoc,Rat.add_comm,Rat.add_left_comm]
 ·have hn:eH a 1 c1=0:=by
   unfold eH
   by_cases c0:c1=0
   ·rw [if_pos c0]
   ·rw [if_neg c0,if_neg h]
  rw [if_neg h,List.foldl_append,List.foldl_append,List.foldl_append,jL (n3 _),jL (n2 _),jL h,BV,hn,Rat.zero_add,Rat.add_zero]
theorem MF {c:Rat}{n:Nat}(h:Bd c n)(hn:n≤16):Sl c:=by
 have:=h.sm hn
 exact ⟨Nat.lt_trans this.1 (by decide),this.2⟩
theorem ad7 {c:Rat}(h:Bd c 2):Bv c 1:=by
 refine aD h fun m aiZ hm=>?_;subst aiZ
 refine ⟨m*8,?_,Nat.le_trans (Nat.le_of_eq (Int.natAbs_mul m 8)) (Nat.le_trans (Nat.mul_le_mul_right 8 hm) (by decide))⟩
 rw [show (512:Nat)=64*8 from rfl,show (m*8:Int)=m*(8:Nat) from rfl,Rat.mkRat_mul_right (by decide)]
theorem SM {a:Rat}{x:Int}{cs:List Rat}{c0 c1 c2 c3:Rat}(ha:a∈nG)(hb:Bd a 1)(hx:x∈zI)(h0:Bd c0 1)(h1:Bd c1 1)(h2:Bd c2 1)(h3:Bd c3 1)
  (e0:cs.getD 0 0=c0) (e1:cs.getD 1 0=c1) (e2:cs.getD 2 0=c2) (e3:cs.getD 3 0=c3) {d:Nat}:tZ (d+8) (dR a cs) x (SL ((x:Rat)+a) c0 c1 c2 c3):=by
 have b0:Bv ((0:Int):Rat) 1:=⟨0,by decide+kernel,by decide⟩
 have b2:Bv ((2:Int):Rat) 1:=⟨1024,by decide+kernel,by decide⟩
 have b5:Bv ((5:Int):Rat) 1:=⟨2560,by decide+kernel,by decide⟩
 have hsh:∀k c,1≤k→k≤3→Bd c 1→∀d,∀p∈uC a x k c,tZ (d+7) p.v x p.r∧Bv p.r 1:=by
  intro k c k1 k3 hc d p hp
  unfold uC at hp
  split at hp
  ·cases hp
  ·rename_i c0
   split at hp
   ·rw [List.mem_singleton] at hp;subst hp
    have w:tZ (d+7) sx x (x:Rat):=ZA (d:=d+7)
    refine ⟨w,?_⟩
    simp only [zI,List.mem_cons,List.not_mem_nil,or_false] at hx
    rcases hx with rfl|rfl|rfl
    ·exact b0
    ·exact b2
    ·exact b5
   ·rw [List.mem_singleton] at hp;subst hp
    have w:=ZD (d:=d) (fun d=>ZC ha hx k1 k3) c0 (MF hc (by decide)) (SK (jK ha hx k3))
    exact ⟨w,MB hc (jK ha hx k3)⟩
 have hN:Bd (c0+eH a 1 c1) 2:=by
  refine Bd.add (n:=1) (k:=1) h0 ?_
  unfold eH
  split
  ·exact Bd.zero 1
  ·split
   ·exact hb
   ·exact Bd.zero 1
 have key:dR a cs=hG ((zJ a x c1 c2 c3++nI (c0+eH a 1 c1)).map uB.v):=by rw [dR,e0,e1,e2,e3,List.map_append,MC,ZE]
 refine (Eq.symm key)▸?_;refine ME▸?_
 refine tZ.up (d:=d) ?_ ?_
 ·have l1:∀k c,(uC a x k c).length≤1:=by
   intro k c
   unfold uC
   split
   ·exact Nat.le_of_ble_eq_true rfl
   ·split<;>exact Nat.le_of_ble_eq_true rfl
  have l2:(nI (c0+eH a 1 c1)).length≤1:=by
   unfold nI
   split<;>exact Nat.le_of_ble_eq_true rfl
  have a1:=l1 1 c1;have a2:=l1 2 c2;have a3:=l1 3 c3
  unfold zJ
  split<;>simp only [List.length_append]<;>lia
 ·intro d p hp
  rcases List.mem_append.mp hp with hp|hp
  ·have hp:p∈uC a x 1 c1∨p∈uC a x 2 c2∨p∈uC a x 3 c3:=by
    unfold zJ at hp
    split at hp
    ·rcases List.mem_append.mp hp with hp|hp
     ·exact .inl hp
     ·rcases List.mem_append.mp hp with hp|hp
      ·exact .inr (.inr hp)
      ·exact .inr (.inl hp)
    ·rcases List.mem_append.mp hp with hp|hp
     ·exact .inr (.inr hp)
     ·rcases List.mem_append.mp hp with hp|hp
      ·exact .inr (.inl hp)
      ·exact .inl hp
   rcases hp with hp|hp|hp
   ·exact hsh 1 c1 (by decide) (by decide) h1 d p hp
   ·exact hsh 2 c2 (by decide) (by decide) h2 d p hp
   ·exact hsh 3 c3 (by decide) (by decide) h3 d p hp
  ·unfold nI at hp
   split at hp
   ·rw [List.mem_singleton] at hp;subst hp
    exact ⟨uA,ad7 hN⟩
   ·cases hp
noncomputable def bA0:List S:=thn (cK f_law_beginning.body 1)
noncomputable def ad8:{g:CF→(β:Type)→List V→V→(Fm→Option β)→Option β // ∀C β a b k q,kS C glb (cK f_law_beginning.body 0) β [.l a,.v b,.un,.un,.un,.un,.un,.un,.un,.un,.un,.un,.un] k q=g C β a b k}:=⟨_,by
 intro C β a b k q
 conv=>
  lhs
  dsimp only [f_law_beginning,cK,aU,kS,kE,bW,cM,uV,gJ,rB,aG,aH,List.map,aC,List.set,List.length,fE,fF,fX,bE,aW,bF,bL,aJ,aK,bO,bP,aI,aN,aP,qK,qM,cL,bK,hJ,AF,List.contains,List.elem,aB,eN,JL,List.replicate,Nat.reduceAdd,Nat.reduceSub]⟩
def iX (s:List V)(n:Nat):Prop:=∃(l:List Int) (k:Nat) (t:Int),s=[.lst (l.map .int),.int (.ofNat k),.int t]∧l.length≤40∧k+n≤500
theorem BW (i:Int){m:Nat}(hm:m≠0):∃r:Nat,r<m∧Int.fmod i m=.ofNat r:=by
 have h1:0≤Int.fmod i m:=Int.fmod_nonneg_of_pos _ (by lia)
 have h2:Int.fmod i m<m:=Int.fmod_lt_of_pos _ (by lia)
 refine aR (Int.eq_ofNat_of_zero_le h1) fun r hr=>?_
 exact ⟨r,by lia,hr⟩
theorem MG {β:Type}{i:Int}{m:Nat}(hm:m≠0){k:V→Option β}:VV (.int i) (.int (.ofNat m)) k=k (.int (Int.fmod i m)):=by
 refine (?_:cond (iW (.ofNat m) 0) none (lE (Int.fmod i (.ofNat m)) fun z=>k (.int z))=_)
 rw [AZ hm,aN,eA];rfl
noncomputable def pn (l:List Int)(k:Nat)(t:Int):List V:=[.lst (l.map .int),.int (.ofNat k),.int t]
noncomputable def pB:List S:=f_law_pick.body
section
variable {C:CF}{β:Type}{q:V→Fm→Option β}{κ:Fm→Option β}{l:List Int}{k m r:Nat}{t x:Int}{a b:E}{ρ ρ1 ρ2:Fm}
theorem MH:Es C β q (cK pB 0) [.l (pn l k t),.v (.int (.ofNat m))] [.l (pn l (k+1) t),.v (.int (.ofNat m))]:=fun κ=>(dI (i:=.ofNat k) (j:=1) (fun _=>rfl) (fun _=>rfl) rfl _).trans rfl
theorem MI (h:Ev C β a ρ (.int x) ρ1)(g:Ev C β b ρ1 (.int (.ofNat m)) ρ2)(hm:m≠0)(e:Int.fmod x m=.ofNat r):Ev C β (.bin .mod a b) ρ (.int (.ofNat r)) ρ2:=dM h g fun k=>(MG hm).trans (by exact (Eq.symm e)▸rfl)
theorem MJ (hl:l.length≤40)(K:V→Option β):GH (.lst (l.map V.int)) K=K (.int (.ofNat l.length)):=by
 refine (?_:cond (Nat.ble (l.map V.int).length 1000) (K (.int (.ofNat (l.map V.int).length))) none=_)
 rw [List.length_map,cS (Nat.le_trans hl (by decide))];rfl
theorem BX (hl:l.length≤40):Ev C β (.cmp .le (.subO 0 (.int 1)) (.bi1 .len (.subO 0 (.int 0)))) [.l (pn l k t),.v (.int (.ofNat m))] (.bool (not (Nat.blt l.length k))) [.l (pn l k t),.v (.int (.ofNat m))]:=
 bQ (o:=.le) (fun _=>rfl) (kB (o:=.len) (x:=.lst (l.map .int)) (fun _=>rfl) (MJ hl)) fun _=>rfl
theorem ZF (hl:l.length≤40)(hx:l[k]? =some x)(hm:m≠0)(e:Int.fmod x m=.ofNat r):aU C glb pB β [.l (pn l k t),.v (.int (.ofNat m))] κ q=q (.int (.ofNat r)) [.l (pn l (k+1) t),.v (.int (.ofNat m))]:=by
 have hk:=(List.getElem?_eq_some_iff.mp hx).1
 refine eE MH (yT (by have:=BX (C:=C) (β:=β) (k:=k+1) (t:=t) (m:=m) hl;rwa [mC hk] at this) fun _=>cR (MI (mP (x:=.lst (l.map .int)) (y:=.int (.ofNat k)) (fun _=>rfl) (dM (x:=.int (.ofNat (k+1))) (y:=.int 1) (fun _=>rfl) (fun _=>rfl) fun K=>oA.trans (congrArg (fun i=>K (.int i)) (show ((k+1:Nat):Int) - 1=k by lia))) fun _=>dY (x:=.int x) (by refine (Eq.symm List.getElem?_map)▸?_;refine (Eq.symm hx)▸?_;rfl) (by lia)) (fun _=>rfl) hm e))
theorem ZG (hl:l.length≤40)(hk:l.length<k+1)(hk2:k+1<2^40)(hm:m≠0)(e:Int.fmod (Int.add (Int.add (Int.mul 5 (.ofNat (k+1))) (Int.fdiv (Int.mul (.ofNat (k+1)) (.ofNat (k+1))) 7)) t) m=.ofNat r):aU C glb pB β [.l (pn l k t),.v (.int (.ofNat m))] κ q=q (.int (.ofNat r)) [.l (pn l (k+1) t),.v (.int (.ofNat m))]:=by
 refine eE MH (eE (mQ (by have:=BX (C:=C) (β:=β) (k:=k+1) (t:=t) (m:=m) hl;rwa [Nat.blt_eq.mpr hk] at this) iD) (cR (MI (dI (dI (dN (i:=5) (j:=.ofNat (k+1)) (fun _=>rfl) (fun _=>rfl) (by decide)) (dM (o:=.fdiv) (x:=.int (Int.mul (.ofNat (k+1)) (.ofNat (k+1)))) (y:=.int (.ofNat 7)) (z:=.int (Int.fdiv (Int.mul (.ofNat (k+1)) (.ofNat (k+1))) 7)) (dN (fun _=>rfl) (fun _=>rfl) hk2) (fun _=>rfl) fun K=>BT (i:=Int.mul (.ofNat (k+1)) (.ofNat (k+1))) (g:=7) (k:=K) (by decide) (by decide)) rfl) (fun _=>rfl) rfl) (fun _=>rfl) hm e)))
end
theorem eI {s:List V}{n m d:Nat}(hs:iX s (n+1))(hm:m≠0):∃r s',r<m∧Cn (d+2) 83 [.l s,.v (.int (.ofNat m))]=some (.int (.ofNat r),.l s')∧iX s' n:=by
 refine dA hs fun l k t ai0 hl hk=>?_;subst ai0
 have hp:iX (pn l (k+1) t) n:=(gE l (k+1) t ⟨rfl,hl,by lia⟩)
 have run:∀r,aU (Cn (d+1)) glb pB _ [.l (pn l k t),.v (.int (.ofNat m))] (aC true .none) (aC true)=aC true (.int (.ofNat r)) [.l (pn l (k+1) t),.v (.int (.ofNat m))]→Cn (d+2) 83 [.l (pn l k t),.v (.int (.ofNat m))]=some (.int (.ofNat r),.l (pn l (k+1) t)):=fun r h=>
  (show Cn (d+2) 83 [.l (pn l k t),.v (.int (.ofNat m))]=aU (Cn (d+1)) glb pB _ [.l (pn l k t),.v (.int (.ofNat m))] (aC true .none) (aC true) from rfl).trans h
 by_cases h:l.length<k+1
 ·refine aD (BW (Int.add (Int.add (Int.mul 5 (.ofNat (k+1))) (Int.fdiv (Int.mul (.ofNat (k+1)) (.ofNat (k+1))) 7)) t) hm) fun r h1 h2=>?_
  exact (bM r _ ⟨h1,run r (ZG hl h (by lia) hm h2),hp⟩)
 ·refine aD (BW (l[k]'(Nat.lt_of_not_le fun q=>h (Nat.lt_succ_of_le q))) hm) fun r h1 h2=>?_
  exact (bM r _ ⟨h1,run r (ZF hl (List.getElem?_eq_getElem _) hm h2),hp⟩)
def gN (c:Int):Prop:=c= -2∨c= -1∨c=0∨c=1∨c=2
theorem BY {r:Nat}(h:r<5):gN (Int.sub (.ofNat r) 2):=by
 have:r=0∨r=1∨r=2∨r=3∨r=4:=by lia
 rcases this with rfl|rfl|rfl|rfl|rfl
 ·exact .inl rfl
 ·exact .inr (.inl rfl)
 ·exact .inr (.inr (.inl rfl))
 ·exact .inr (.inr (.inr (.inl rfl)))
 ·exact .inr (.inr (.inr (.inr rfl)))
theorem cT {c:Int}(h:gN c):(c:Rat)∈nO:=by
 rcases h with rfl|rfl|rfl|rfl|rfl<;>decide+kernel
noncomputable def stR (C:CF)(σ:Fm)(q:Option V→Fm→Option (List V×Fm)):Option (List V×Fm):=match σ.at 0 with
 |.l xs=>(C 83 [.l xs,.v (.int 5)]).bind fun r=>GF r.1 (.int 2) fun z=>q (some z) (σ.set 0 r.2)
 |.d xs=>(C 83 [.d xs,.v (.int 5)]).bind fun r=>GF r.1 (.int 2) fun z=>q (some z) (σ.set 0 r.2)
 |_=>none
theorem ad9 {C:CF}{σ:Fm}{q:Option V→Fm→Option (List V×Fm)}{s s1:List V}{r:Nat}{y:Option (List V×Fm)}(e:σ.at 0=.l s)(h:C 83 [.l s,.v (.int 5)]=some (.int (.ofNat r),.l s1))(g:q (some (.int (Int.sub (.ofNat r) 2))) (σ.set 0 (.l s1))=y):stR C σ q=y:=by
 unfold stR
 rw [e]
 exact bD h (oA.trans g)
noncomputable def fR (s:List V)(rest:List aE)(sl:aE):Fm:=.l s::(rest.take 12++[sl])
theorem ZH {rest:List aE}(hr:rest.length=13)(s:List V)(sl x:aE):(fR s rest sl).set 13 x=fR s rest x:=by
 have ht:(rest.take 12).length=12:=by rw [List.length_take,hr];rfl
 show aE.l s::((rest.take 12++[sl]).set 12 x)=_
 rw [List.set_append_right _ _ (by lia),ht];rfl
theorem SN {bind:V→Fm→Option Fm}{step:Fm→(Option V→Fm→Option (List V×Fm))→Option (List V×Fm)}{x:V}{r:List V}{ρ:Fm}:rA bind step (x::r) ρ=(bind x ρ).bind fun ρ₁=>step ρ₁ fun o ρ₂=>(rA bind step r ρ₂).bind fun z=>some ((match o with|some y=>y::z.1|none=>z.1),z.2):=rfl
theorem wN {C:CF}{rest:List aE}{m:Nat}(hr:rest.length=13)
  (hp:∀(s:List V) (n:Nat),iX s (n+1)→∃r s',r<5∧C 83 [.l s,.v (.int 5)]=some (.int (.ofNat r),.l s')∧iX s' n) (n:Nat):
  ∀(a:Int) (s:List V) (sl:aE),iX s (n+m)→∃row:List Int,row.length=n∧(∀c∈row,gN c)∧∃s' sl',iX s' m∧
   rA (fun x σ=>some (σ.set 13 (.v x))) (stR C) (upTo n a) (fR s rest sl)=some (row.map .int,fR s' rest sl'):=by
 induction n with
 |zero=>exact fun a s sl hs=>⟨[],rfl,(fun c h=>by cases h),s,sl,Nat.zero_add m▸hs,rfl⟩
 |succ n ih=>
  refine fun a s sl hs=>?_
  refine eS fun gG gH=>?_;refine bN (hp s (n+m) (Eq.subst (motive:=fun k=>iX s k) (show n+1+m=n+m+1 from Nat.succ_add n m) hs)) fun r s1 h1 h2 h3=>?_
  refine eM (ih (a+1) s1 (.v (.int a)) h3) fun row q1 q2 g=>?_
  refine cF g fun s' sl' q3 q4=>?_
  refine gH ?_
  refine Exists.intro (Int.sub (.ofNat r) 2::row) ⟨congrArg (· +1) q1,?_,bM s' sl' ⟨q3,?_⟩⟩
  ·intro c hc
   cases hc with
   |head=>exact BY h1
   |tail _ hc=>exact q2 c hc
  ·exact SN.trans (bD (congrArg some (ZH hr _ _ _)) (ad9 rfl h2 (bD q4 rfl)))
theorem MK {at_ st d:Nat}(h1:at_≤3)(h2:st≤3):∃ch:Int,Cn (d+3) 89 [.v (.int (.ofNat at_)),.v (.int (.ofNat st))]=some (.int ch,.un)∧0≤ch∧ch≤3∧(st≤at_→∀α∈iR,(ch:Rat)*α^(at_ - st)=pw α at_ st):=by
 have key:∀(i j:Nat) (ch:Int),(∀d,aT (d+2) 89 [.v (.int (.ofNat i)),.v (.int (.ofNat j))]=some (.int ch,.un))→0≤ch→ch≤3→(j≤i→(iR.all fun α=>decide ((ch:Rat)*α^(i - j)=pw α i j))=true)→
   ∃ch:Int,Cn (d+3) 89 [.v (.int (.ofNat i)),.v (.int (.ofNat j))]=some (.int ch,.un)∧0≤ch∧ch≤3∧(j≤i→∀α∈iR,(ch:Rat)*α^(i - j)=pw α i j):=
  fun i j ch a1 a2 a3 a4=>⟨ch,bZ (a1 d),a2,a3,fun hh α hα=>of_decide_eq_true (List.all_eq_true.mp (a4 hh) α hα)⟩
 have c1:at_=0∨at_=1∨at_=2∨at_=3:=by lia
 have c2:st=0∨st=1∨st=2∨st=3:=by lia
 rcases c1 with rfl|rfl|rfl|rfl
 ·rcases c2 with rfl|rfl|rfl|rfl
  ·exact key 0 0 1 (fun d=>by kernel_rfl) (by decide) (by decide) fun _=>by decide+kernel
  ·exact key 0 1 0 (fun d=>by kernel_rfl) (by decide) (by decide) fun h=>absurd h (by decide)
  ·exact key 0 2 0 (fun d=>by kernel_rfl) (by decide) (by decide) fun h=>absurd h (by decide)
  ·exact key 0 3 0 (fun d=>by kernel_rfl) (by decide) (by decide) fun h=>absurd h (by decide)
 ·rcases c2 with rfl|rfl|rfl|rfl
  ·exact key 1 0 1 (fun d=>by kernel_rfl) (by decide) (by decide) fun _=>by decide+kernel
  ·exact key 1 1 1 (fun d=>by kernel_rfl) (by decide) (by decide) fun _=>by decide+kernel
  ·exact key 1 2 0 (fun d=>by kernel_rfl) (by decide) (by decide) fun h=>absurd h (by decide)
  ·exact key 1 3 0 (fun d=>by kernel_rfl) (by decide) (by decide) fun h=>absurd h (by decide)
 ·rcases c2 with rfl|rfl|rfl|rfl
  ·exact key 2 0 1 (fun d=>by kernel_rfl) (by decide) (by decide) fun _=>by decide+kernel
  ·exact key 2 1 2 (fun d=>by kernel_rfl) (by decide) (by decide) fun _=>by decide+kernel
  ·exact key 2 2 1 (fun d=>by kernel_rfl) (by decide) (by decide) fun _=>by decide+kernel
  ·exact key 2 3 0 (fun d=>by kernel_rfl) (by decide) (by decide) fun h=>absurd h (by decide)
 ·rcases c2 with rfl|rfl|rfl|rfl
  ·exact key 3 0 1 (fun d=>by kernel_rfl) (by decide) (by decide) fun _=>by decide+kernel
  ·exact key 3 1 3 (fun d=>by kernel_rfl) (by decide) (by decide) fun _=>by decide+kernel
  ·exact key 3 2 3 (fun d=>by kernel_rfl) (by decide) (by decide) fun _=>by decide+kernel
  ·exact key 3 3 1 (fun d=>by kernel_rfl) (by decide) (by decide) fun _=>by decide+kernel
theorem iK:∀(j i:Nat),upTo j (.ofNat i)=(List.range' i j).map fun t=>.int (.ofNat t)
 |0,_=>rfl
 |j+1,i=>congrArg _ (iK j (i+1))
theorem sB {α:Rat}(h:α∈iR)(k:Nat)(hk:k≤3):(α^k).num.natAbs≤8∧(α^k).den≤8:=by
 have all:(iR.all fun α=>(List.range 4).all fun k=>Nat.ble (α^k).num.natAbs 8 && Nat.ble (α^k).den 8)=true:=by decide+kernel
 have:=List.all_eq_true.mp (List.all_eq_true.mp all α h) k (List.mem_range.mpr (by omega))
 exact ⟨Nat.le_of_ble_eq_true (eY this).1,Nat.le_of_ble_eq_true (eY this).2⟩
theorem wO {c:Int}(h:gN c):c.natAbs≤2:=by
 rcases h with rfl|rfl|rfl|rfl|rfl<;>decide
theorem SO {α:Rat}{c ch:Int}{k:Nat}:mkRat (Int.mul (Int.mul c ch) (α^k).num) (α^k).den=(c:Rat)*((ch:Rat)*α^k):=by
 have e:(c:Rat)*((ch:Rat)*α^k)=mkRat (c*ch) 1*mkRat (α^k).num (α^k).den:=by
  rw [Rat.mkRat_self, ←Rat.mul_assoc]
  congr 1
  rw [←Rat.intCast_mul];exact (Rat.mkRat_self ((c*ch:Int):Rat)).symm
 rw [e,Rat.mkRat_mul_mkRat,Nat.one_mul];rfl
noncomputable def dO (ns:List Int):V:=.lst (ns.map .int)
noncomputable def qB (ns:List Int):List Rat:=ns.map fun c:Int=>(c:Rat)
noncomputable def iL (ns:List Int)(k:Nat):Rat:=((ns.getD k 0:Int):Rat)
theorem dF {ns:List Int}(h:∀c∈ns,gN c)(k:Nat):gN (ns.getD k 0):=by
 rw [List.getD_eq_getElem?_getD]
 cases e:ns[k]? with
 |none=>exact .inr (.inr (.inl rfl))
 |some x=>exact h x (List.mem_of_getElem? e)
theorem sC {d:Nat}{ns:List Int}(hn:ns.length≤4)(h:∀c∈ns,gN c):Cn (d+42) 87 [.v (dO ns)]=some (dR 0 (qB ns),.un):=by
 refine (show QR.1 (Cn (d+41)) _=_ from ?_)
 have hmon:∀(ns:List Int) (i:Nat),xM (fun x=>match x with
   |.tup l=>match l with
    |x::r=>match r with
     |x_1::r=>match r with
      |[]=>some (some (V.tup [.str 3,.tup [.tup [.str 0,x_1,.int 1],.tup [.str 4,.tup [.str 1,.str 17],.tup [.str 0,x,.int 1]]]]))
      |_=>none
     |[]=>none
    |[]=>none
   |_=>none) (iO (.ofNat i) (ns.map .int))=some (dT sx i (qB ns)):=by
  intro ns
  induction ns with
  |nil=>intro i;rfl
  |cons c ns ih=>
   intro i
   rw [show iO (.ofNat i) ((c::ns).map .int)=.tup [.int (.ofNat i),.int c]::iO (.ofNat (i+1)) (ns.map .int) from rfl,KO]
   dsimp only
   rw [aB]
   dsimp only
   rw [ih (i+1)];rfl
 have hlen:∀(l:List V) (i:Int),(iO i l).length=l.length:=by
  intro l
  induction l with
  |nil=>intro i;rfl
  |cons x l ih=>intro i;exact congrArg (· +1) (ih _)
 have hb:∀c∈qB ns,Bd c 1:=by
  intro c hc
  rw [qB,List.mem_map] at hc
  obtain ⟨x,hx,rfl⟩:=hc
  refine ⟨x*64,?_,?_⟩
  ·rw [show mkRat (x*64) 64=mkRat (x*(64:Nat)) (1*64) from rfl,Rat.mkRat_mul_right (by decide)]
   exact (Rat.mkRat_self ((x:Int):Rat)).symm
  ·have:=wO (h x hx)
   rw [Int.natAbs_mul]
   show x.natAbs*64≤1*2^14
   omega
 have hs:=wG (a:=0) (cs:=qB ns) (by decide+kernel) (Bd.zero 1) (by rw [qB,List.length_map];exact hn) hb (d:=d+1)
 dsimp only [QR,dO,dG,aI]
 refine eG (hmon ns 0) ?_
 have hml:(dT sx 0 (qB ns)).length≤4:=by rw [rX,qB,List.length_map];exact hn
 rw [hlen,List.length_map,cS (show ns.length≤1000 by omega),aI,show Nat.beq (0+1) (0+1)=true from rfl,aI,cS (show (dT sx 0 (qB ns)).length≤1000 by omega),aI]
 exact eG hs rfl
theorem ML {β:Type}{k n:Nat}(hk:k<1000)(hn:n<1000){q:List V→Option β}:xN (.ofNat k) (.ofNat n) q=q (upTo (n - k) (.ofNat k)):=by
 refine (?_:cond (Nat.blt n 1000) (cond (Nat.blt k 1000) (cond true (cond true (q (upTo (Int.toNat (Int.sub (.ofNat n) (.ofNat k))) (.ofNat k))) none) none) none) none=_)
 refine (Eq.symm (Nat.blt_eq.mpr hn))▸?_;refine (Eq.symm (Nat.blt_eq.mpr hk))▸?_;refine (Eq.symm (show Int.toNat (Int.sub (.ofNat n) (.ofNat k))=n - k from Int.toNat_sub n k))▸?_;rfl
noncomputable def inS (α:Rat)(ns:List Int)(k:Nat):Rat:=(List.range' k (ns.length - k)).foldl (fun r t=>r+iL ns t*pw α t k) 0
theorem wP {ns:List Int}{t:Nat}(h:ns.length≤t):iL ns t=0:=by
 rw [iL,List.getD_eq_getElem?_getD,List.getElem?_eq_none h];rfl
theorem ZI {α:Rat}{ns:List Int}{k:Nat}(hn:ns.length≤4)(hk:k≤3):inS α ns k=jJ α (iL ns 0) (iL ns 1) (iL ns 2) (iL ns 3) k:=by
 have z:∀t,(ns.length≤t∨t<k)→iL ns t*pw α t k=0:=by
  rintro t (h|h)
  ·rw [wP h,Rat.zero_mul]
  ·rw [BN h,Rat.mul_zero]
 have hl:∀(l:List Nat) (r:Rat),(∀t∈l,iL ns t*pw α t k=0)→l.foldl (fun r t=>r+iL ns t*pw α t k) r=r:=by
  intro l
  induction l with
  |nil=>intro r _;rfl
  |cons a l ih=>intro r h;rw [List.foldl_cons,h a (.head _),Rat.add_zero];exact ih r fun t ht=>h t (.tail _ ht)
 have full:(List.range 4).foldl (fun r t=>r+iL ns t*pw α t k) 0=inS α ns k:=by
  by_cases h:k≤ns.length
  ·have e:List.range 4=List.range' 0 k++(List.range' k (ns.length - k)++List.range' ns.length (4 - ns.length)):=by
    rw [List.range_eq_range']
    have e1:=List.range'_append_1 (s:=k) (m:=ns.length - k) (n:=4 - ns.length)
    have e2:=List.range'_append_1 (s:=0) (m:=k) (n:=ns.length - k+(4 - ns.length))
    rw [Nat.add_sub_of_le h] at e1
    rw [Nat.zero_add] at e2
    rw [e1,e2];exact congrArg (List.range' 0) ((Nat.add_assoc _ _ _).symm.trans ((congrArg (· +(4 - ns.length)) (Nat.add_sub_of_le h)).trans (Nat.add_sub_of_le hn))).symm
   rw [e,List.foldl_append,List.foldl_append,hl (List.range' 0 k) 0 (fun t ht=>z t (.inr (Nat.lt_of_lt_of_eq (List.mem_range'_1.mp ht).2 (Nat.zero_add k)))),hl (List.range' ns.length (4 - ns.length)) _ (fun t ht=>z t (.inl (List.mem_range'_1.mp ht).1))];rfl
  ·rw [hl _ 0 (fun t ht=>z t ((Nat.lt_or_ge t k).elim .inr fun g=>.inl (Nat.le_trans (Nat.le_of_not_le h) g))),inS,Nat.sub_eq_zero_of_le (Nat.le_of_not_le h)];rfl
 rw [←full]
 show 0+iL ns 0*pw α 0 k+iL ns 1*pw α 1 k+iL ns 2*pw α 2 k+iL ns 3*pw α 3 k=_
 unfold jJ
 rw [Rat.zero_add]
 simp only [Rat.add_assoc,Rat.add_comm,Rat.add_left_comm]
noncomputable def bA1:List S:=nM (cK bA0 2)
noncomputable def bA2:List S:=nM (cK bA1 1)
noncomputable def fB (a:aE)(e:Nat)(α:Rat)(s4 s5 s6 s7 s8 s9:aE):Fm:=[a,.v (.int (.ofNat e)),.v (.int 0),.v (qv α),s4,s5,s6,s7,s8,s9,.un,.un,.un]
section
variable {C:CF}{β:Type}{q:V→Fm→Option β}{a s5 s6 s7 s8 s9:aE}{e k t c ch d m:Nat}{α r:Rat}{ns:List Int}{F:List V}{s:List V}
theorem SP {x:E}{ρ ρ1:Fm}{n:Nat}(h:Ev C β x ρ (.int (.ofNat n)) ρ1)(hn:n<1000)(K:List V→Fm→Option β):gJ C glb (.rng1 x) β ρ K=K ((List.range n).map fun t=>.int (.ofNat t)) ρ1:=
 (h _).trans ((oG hn).trans (congrArg (K · _) (by refine (Eq.symm List.range_eq_range')▸?_;exact iK n 0)))
theorem aeA {w:Rat}{s4:aE}(c86:C 86 [.v (qv α),.v (.int (Int.sub (.ofNat t) (.ofNat k)))]=some (qv w,.un)):
  Es C β q (cK bA2 0) (fB a e α s4 s5 (.v (.int (.ofNat k))) s7 (.v (.int (.ofNat t))) s9) (fB a e α s4 s5 (.v (.int (.ofNat k))) s7 (.v (.int (.ofNat t))) (.v (qv w))):=
 bU (aS (bR (fun _=>rfl) (kR (fun _=>rfl) fun _=>rfl)) c86) rfl
theorem aeB {R:V}{w r':Rat}{c ch:Int}(hget:∀K:V→Option β,oU R (.int (.ofNat t)) K=K (.int c))(c89:C 89 [.v (.int (.ofNat t)),.v (.int (.ofNat k))]=some (.int ch,.un))(b1:c.natAbs<2^40)(b2:(Int.mul c ch).natAbs<2^40)(c85:C 85 [.v (qv r),.v (.tup [.int (Int.mul (Int.mul c ch) w.num),.int w.den])]=some (qv r',.un)):
  Es C β q (cK bA2 1) (fB a e α (.v R) s5 (.v (.int (.ofNat k))) (.v (qv r)) (.v (.int (.ofNat t))) (.v (qv w))) (fB a e α (.v R) s5 (.v (.int (.ofNat k))) (.v (qv r')) (.v (.int (.ofNat t))) (.v (qv w))):=
 bU (aS (bR (fun _=>rfl) (eD (bR (dN (dN (mP (fun _=>rfl) (fun _=>rfl) hget) (aS (bR (fun _=>rfl) fun _=>rfl) c89) b1) (fun _=>rfl) b2) fun _=>rfl))) c85) rfl
theorem EX {c ch:Int}{w:Rat}(hc:c.natAbs≤2)(h0:0≤ch)(h3:ch≤3)(b1:w.num.natAbs≤8):(Int.mul c ch).natAbs<2^40∧(Int.mul (Int.mul c ch) w.num).natAbs<2^40:=by
 have m1:(Int.mul c ch).natAbs≤6:=by
  show (c*ch).natAbs≤6
  rw [Int.natAbs_mul]
  exact Nat.mul_le_mul hc (Int.ofNat_le.mp (Int.le_trans (Int.le_of_eq (Int.natAbs_of_nonneg h0)) h3):ch.natAbs≤3)
 refine ⟨Nat.lt_of_le_of_lt m1 (by decide),?_⟩
 show (Int.mul c ch*w.num).natAbs<2^40
 rw [Int.natAbs_mul]
 exact Nat.lt_of_le_of_lt (Nat.mul_le_mul m1 b1) (by decide)
noncomputable def iT (α:Rat)(ns:List Int)(k:Nat)(r:Rat)(t:Nat):Rat:=r+iL ns t*pw α t k
theorem ZJ (hα:α∈iR)(hns:∀c∈ns,gN c)(hn:ns.length≤4)(hk:k≤t)(ht:t<ns.length)(hr:Bd r c)(hc:c≤4):
  ∃w,mO (Cn (d+50)) β q bA2 (fB a e α (.v (dO ns)) s5 (.v (.int (.ofNat k))) (.v (qv r)) (.v (.int (.ofNat t))) s9) (fB a e α (.v (dO ns)) s5 (.v (.int (.ofNat k))) (.v (qv (iT α ns k r t))) (.v (.int (.ofNat t))) w):=by
 have t3:t≤3:=Nat.le_of_lt_succ (Nat.lt_of_lt_of_le ht hn)
 refine eS fun gG gH=>?_;refine TX (MK (at_:=t) (st:=k) (d:=d+47) t3 (Nat.le_trans hk t3)) fun ch hch ch0 ch3 hpw=>?_
 have hca:=wO (dF hns t)
 refine aF (sB hα (t - k) (eP t3)) fun b1 b2=>?_
 refine aF (sB hα 1 (by decide)) fun b3 b4=>?_
 rw [Rat.pow_one] at b3 b4
 refine aF (EX (w:=α^(t - k)) hca ch0 ch3 b1) fun m1 m2=>?_
 refine gH ?_;refine ⟨_,iE (aeA (w:=α^(t - k)) ?_) (aeB (c:=ns.getD t 0) (ch:=ch) (fun K=>?_) hch (Nat.lt_of_le_of_lt hca (by decide)) m1 ?_)⟩
 ·refine (Eq.symm (show Int.sub (.ofNat t) (.ofNat k)=.ofNat (t - k) from (Int.ofNat_sub hk).symm))▸?_
  exact qA (d:=d+47) ⟨Nat.lt_of_le_of_lt b3 (by decide),Nat.lt_of_le_of_lt b4 (by decide)⟩ (eP (Nat.le_trans t3 (by decide))) (by rw [←Rat.den_pow];exact Nat.lt_of_le_of_lt b2 (by decide))
 ·exact dY (by refine (Eq.symm List.getElem?_map)▸?_;refine (Eq.symm List.getD_eq_getElem?_getD)▸?_;refine (Eq.symm (List.getElem?_eq_getElem ht))▸?_;rfl) (Nat.le_trans t3 (by decide))
 ·refine (pZ (d:=d+47) (MF hr (Nat.le_trans hc (by decide))) m2 (α^(t - k)).den_nz (Nat.lt_of_le_of_lt b2 (by decide))).trans ?_
  refine (Eq.symm SO)▸?_;refine (Eq.symm (hpw hk α hα))▸?_;rfl
def aeC (a:aE)(e:Nat)(α:Rat)(ns:List Int)(F:aE)(k:Nat)(c:Nat)(r:Rat)(ρ:Fm):Prop:=(c≤4∧Bd r (4 - c))∧∃s8 s9,ρ=fB a e α (.v (dO ns)) F (.v (.int (.ofNat k))) (.v (qv r)) s8 s9
theorem SQ {β:Type}{ns:List Int}(hn:ns.length≤4)(K:V→Option β):GH (dO ns) K=K (.int (.ofNat ns.length)):=by
 refine (?_:cond (Nat.ble (ns.map V.int).length 1000) (K (.int (.ofNat (ns.map V.int).length))) none=_)
 rw [List.length_map,cS (Nat.le_trans hn (by decide))];rfl
theorem aeD (hα:α∈iR)(hns:∀c∈ns,gN c)(hn:ns.length≤4)(hk:k≤3):∃τ,aeC a e α ns s5 k 0 (inS α ns k) τ∧Es (Cn (d+50)) β q (cK bA1 1) (fB a e α (.v (dO ns)) s5 (.v (.int (.ofNat k))) (.v (qv 0)) s8 s9) τ:=
 gZ (val:=fun t=>V.int (.ofNat t)) (L:=List.range' k (ns.length - k)) (aeC a e α ns s5 k) (iT α ns k) 13 rfl
  (fun K=>by
   refine (?_:GH (dO ns) (fun y=>match y with
    |.int n=>xN (.ofNat k) n fun l=>K l _
    |_=>none)=_)
   exact (SQ hn _).trans ((ML (Nat.lt_of_le_of_lt hk (by decide)) (Nat.lt_of_le_of_lt hn (by decide))).trans (congrArg (K · _) (iK _ _)))) (fun _ _ _ ⟨_,_,_,e⟩=>e▸rfl) ⟨⟨Nat.le_trans (Nat.le_of_eq List.length_range') (eP hn),Bd.zero _⟩,_,_,rfl⟩ (by
   rintro t ht c r ρ ⟨⟨hc,hr⟩,s8,s9,rfl⟩
   rw [List.mem_range'_1] at ht
   refine aR (ZJ (d:=d) (β:=β) (q:=q) (a:=a) (e:=e) (s5:=s5) (s9:=s9) hα hns hn ht.1 (XT ht) hr (eP (by decide))) fun w h=>?_
   exact (bM _ _ ⟨fun _=>rfl,⟨⟨Nat.le_of_succ_le hc,(hr.add (pX (cT (dF hns t)) hα).bd).mono (lU hc)⟩,_,_,rfl⟩,h⟩))
def aeE (a:aE)(e:Nat)(α:Rat)(ns:List Int)(c:Nat)(F:List V)(ρ:Fm):Prop:=F.length+c≤4∧∃s6 s7 s8 s9,ρ=fB a e α (.v (dO ns)) (.l F) s6 s7 s8 s9
theorem aeF (hα:α∈iR)(hns:∀c∈ns,gN c)(hn:ns.length≤4)(hk:k≤3)(hF:F.length≤4):∃s7 s8' s9',mO (Cn (d+50)) β q bA1 (fB a e α (.v (dO ns)) (.l F) (.v (.int (.ofNat k))) s6 s8 s9) (fB a e α (.v (dO ns)) (.l (F++[qv (inS α ns k)])) (.v (.int (.ofNat k))) s7 s8' s9'):=by
 refine aD (aeD (d:=d) (β:=β) (q:=q) (a:=a) (e:=e) (s5:=.l F) (s8:=s8) (s9:=s9) hα hns hn hk) fun τ ai4 h=>?_;obtain ⟨_,s8',s9',rfl⟩:=ai4
 exact (gE _ _ _ (dJ (bU (v:=qv 0) (fun _=>rfl) rfl) (iE h (JO (xs:=F) (fun _=>rfl) rfl rfl (Nat.le_trans hF (by decide)) rfl))))
theorem aeG (hα:α∈iR)(hns:∀c∈ns,gN c)(hn:ns.length≤4)(he:e≤3):∃τ,aeE a e α ns 0 ((List.range (e+1)).foldl (fun F k=>F++[qv (inS α ns k)]) []) τ∧Es (Cn (d+50)) β q (cK bA0 2) (fB a e α (.v (dO ns)) (.l []) s6 s7 s8 s9) τ:=
 gZ (val:=fun t=>V.int (.ofNat t)) (L:=List.range (e+1)) (aeE a e α ns) (fun F k=>F++[qv (inS α ns k)]) 13 rfl
  (SP (n:=e+1) (dI (i:=.ofNat e) (j:=1) (fun _=>rfl) (fun _=>rfl) rfl) (Nat.lt_of_le_of_lt (Nat.succ_le_succ he) (by decide))) (fun _ _ _ ⟨_,_,_,_,_,e⟩=>e▸rfl) ⟨Nat.le_trans (Nat.le_of_eq ((Nat.zero_add _).trans List.length_range)) (Nat.succ_le_succ he),_,_,_,_,rfl⟩ (by
   rintro k hk c F ρ ⟨hc,s6,s7,s8,s9,rfl⟩
   rw [List.mem_range] at hk
   refine jX (aeF (d:=d) (β:=β) (q:=q) (a:=a) (e:=e) (F:=F) (s6:=s7) (s8:=s8) (s9:=s9) hα hns hn (Nat.le_trans (Nat.le_of_lt_succ hk) he) (Nat.le_trans (Nat.le_add_right _ _) hc)) fun s7' s8' s9' h=>?_
   exact (bM _ _ ⟨fun _=>rfl,⟨by rw [List.length_append,Nat.add_assoc];exact Nat.le_trans (Nat.le_of_eq (congrArg (F.length+ ·) (Nat.add_comm 1 c))) hc,_,_,_,_,rfl⟩,h⟩))
theorem aeH (hs:iX s (6+m)):∃ns:List Int,ns.length≤4∧(∀c∈ns,gN c)∧∃s',iX s' m∧Es (Cn (d+50)) β q (cK bA0 0) (fB (.l s) e α .un .un .un .un .un .un) (fB (.l s') e α (.v (dO ns)) .un .un .un .un .un):=by
 refine eS fun gG gH=>?_;refine bN (eI (d:=d+48) (m:=5) (n:=5+m) (Eq.subst (motive:=fun k=>iX s k) (show 6+m=5+m+1 from Nat.add_right_comm 5 1 m) hs) (by decide)) fun n s1 hn hp1 hs1=>?_
 have hs1':iX s1 (n+(5 - n+m)):=by rw [(Nat.add_assoc n (5 - n) m).symm.trans (congrArg (· +m) (Nat.add_sub_of_le (Nat.le_of_lt hn)))];exact hs1
 refine eM (wN (C:=Cn (d+50)) (rest:=[.v (.int (.ofNat e)),.v (.int 0),.v (qv α),.un,.un,.un,.un,.un,.un,.un,.un,.un,.un]) rfl (fun s n h=>eI (d:=d+48) h (by decide)) n 0 s1 .un hs1') fun ns q1 q2 ai5=>?_;obtain ⟨s2,sl,q3,q4⟩:=ai5
 refine gH ?_;refine ⟨ns,Nat.le_of_lt_succ (Nat.lt_of_le_of_lt (Nat.le_of_eq q1) hn),q2,s2,?_,fun κ=>?_⟩
 ·refine dA q3 fun l k t e1 e2 e3=>?_
  exact (gE l k t ⟨e1,e2,Nat.le_trans (Nat.add_le_add_left (Nat.le_add_left m (5 - n)) k) e3⟩)
 have hu:(upTo n 0).length=n:=by
  have:=congrArg List.length (iK n 0)
  rw [List.length_map,List.length_range'] at this
  exact this
 refine bD hp1 ((oG (Nat.lt_trans hn (by decide):n<1000)).trans (bD q4 ?_))
 rw [hu,cS (Nat.le_of_lt (Nat.lt_trans hn (by decide:5<1000)))];rfl
theorem ZK (hs:iX s (6+m))(hα:α∈iR)(he:e≤3):∃ns:List Int,ns.length≤4∧(∀c∈ns,gN c)∧∃s' F,iX s' m∧(F:Fm).at 0=.l s'∧
  ∀κ,aU (Cn (d+50)) glb bA0 β (fB (.l s) e α .un .un .un .un .un .un) κ q=q (.tup [dR 0 (qB ns),qv α,.lst (qL (e+1) (jJ α (iL ns 0) (iL ns 1) (iL ns 2) (iL ns 3)))]) F:=by
 refine eS fun gG gH=>?_;refine eM (aeH (d:=d) (β:=β) (q:=q) (e:=e) (α:=α) hs) fun ns h4 hns ai1=>?_;obtain ⟨s',hp,h0⟩:=ai1
 refine aD (aeG (d:=d) (β:=β) (q:=q) (a:=.l s') (s6:=.un) (s7:=.un) (s8:=.un) (s9:=.un) hα hns h4 he) fun τ ai2 h2=>?_;obtain ⟨_,s6,s7,s8,s9,rfl⟩:=ai2
 refine gH ?_;have hfold:∀(l:List Nat) (s:List V),l.foldl (fun F k=>F++[qv (inS α ns k)]) s=s++l.map fun k=>qv (inS α ns k):=by
  intro l
  induction l with
  |nil=>intro s;exact (List.append_nil s).symm
  |cons a l ih=>intro s;rw [List.foldl_cons,ih,List.append_assoc];rfl
 have e1:(List.range (e+1)).foldl (fun F k=>F++[qv (inS α ns k)]) []=qL (e+1) (jJ α (iL ns 0) (iL ns 1) (iL ns 2) (iL ns 3)):=by
  rw [hfold,List.nil_append]
  refine List.map_congr_left fun k hk=>?_
  rw [List.mem_range] at hk
  rw [ZI h4 (by lia)]
 rw [e1] at h2
 exact ⟨ns,h4,hns,s',_,hp,rfl,fun κ=>(h0 _).trans (((fun _=>rfl:Es (Cn (d+50)) β q (cK bA0 1) _ _) _).trans ((h2 _).trans (bD (sC (d:=d+8) h4 hns) rfl)))⟩
end
noncomputable def sD:List S:=[cK f_law_beginning_right.body 2,cK f_law_beginning_right.body 3,cK f_law_beginning_right.body 4]
noncomputable def fM (a:aE)(e:Nat)(t p r:V)(s5 s6 s7 s8 s9 s10 s11 s12:aE):Fm:=[a,.v (.int (.ofNat e)),.v t,.v p,.v r,s5,s6,s7,s8,s9,s10,s11,s12]
noncomputable def b4:List S:=nM (cK f_law_beginning_right.body 4)
noncomputable def b41:List S:=nM (cK b4 1)
section
variable {C:CF}{β:Type}{q:V→Fm→Option β}{a:aE}{e k:Nat}{t p r made:V}{s5 s6 s7 s8 s9 s10 s11 s12:aE}{x:Int}{α s y w s' fk:Rat}
theorem aeI (c85:C 85 [.v (.tup [.int x,.int 1]),.v (.tup [.int (Int.sub 0 α.num),.int α.den])]=some (qv y,.un))(c86:C 86 [.v (qv y),.v (.int (.ofNat k))]=some (qv w,.un)):
  Es C β q (cK b41 0) (fM a e t (qv α) r s5 s6 (.v (.int x)) s8 (.v (.int (.ofNat k))) s10 s11 s12) (fM a e t (qv α) r s5 s6 (.v (.int x)) s8 (.v (.int (.ofNat k))) s10 (.v (qv w)) s12):=
 bU (aS (bR (aS (bR (fun _=>rfl) (eD (bR (kR (fun _=>rfl) fun _=>rfl) fun _=>rfl))) c85) fun _=>rfl) c86) rfl
theorem aeJ (b1:fk.num.natAbs<2^40)(b2:(fk.den:Int).natAbs<2^40)(c85:C 85 [.v (qv s),.v (.tup [.int (Int.mul fk.num w.num),.int (Int.mul fk.den w.den)])]=some (qv s',.un)):
  Es C β q (cK b41 1) (fM a e t p r s5 s6 s7 (.v (qv s)) s9 (.v (qv fk)) (.v (qv w)) s12) (fM a e t p r s5 s6 s7 (.v (qv s')) s9 (.v (qv fk)) (.v (qv w)) s12):=
 bU (aS (bR (fun _=>rfl) (eD (bR (dN (fun _=>rfl) (fun _=>rfl) b1) (dN (fun _=>rfl) (fun _=>rfl) b2)))) c85) rfl
theorem MM {β:Type}{r:Rat}{k:Bool→Option β}:qN (qv r) (qv r) k=k true:=by rw [UR,decide_eq_true rfl]
theorem aeK (c88:C 88 [.v made,.v (.int x)]=some (qv s,.un)):Es C β q (cK b4 2) (fM a e t p r s5 (.v made) (.v (.int x)) (.v (qv s)) s9 s10 s11 s12) (fM a e t p r s5 (.v made) (.v (.int x)) (.v (qv s)) s9 s10 s11 s12):=
 mQ (bQ (aS (bR (fun _=>rfl) fun _=>rfl) c88) (fun _=>rfl) fun _=>MM.trans rfl) iD
theorem aeL (c82:C 82 [.v t,.v (.str 17),.v (nv α),.v (nk e)]=some (made,.un)):mO C β q [cK f_law_beginning_right.body 2,cK f_law_beginning_right.body 3] (fM a e t (qv α) r .un .un .un .un .un .un .un .un) (fM a e t (qv α) r (.v (nv α)) (.v made) .un .un .un .un .un .un):=
 iE (bU (fun _=>rfl) rfl) (bU (aS (fun _=>rfl) c82) rfl)
end
theorem EY {e:Nat}(he:e≤3){f:Nat→Rat}{y:Rat}:(List.range (e+1)).foldl (fun r k=>r+f k*y^k) 0=SL y (((List.range (e+1)).map f).getD 0 0) (((List.range (e+1)).map f).getD 1 0) (((List.range (e+1)).map f).getD 2 0) (((List.range (e+1)).map f).getD 3 0):=by
 have:e=0∨e=1∨e=2∨e=3:=by lia
 rcases this with rfl|rfl|rfl|rfl
 ·show 0+f 0*y^0=0*y^3+0*y^2+0*y^1+f 0
  rw [Rat.zero_mul,Rat.zero_mul,Rat.zero_mul,Rat.pow_zero,Rat.mul_one]
  simp only [Rat.zero_add]
 ·show 0+f 0*y^0+f 1*y^1=0*y^3+0*y^2+f 1*y^1+f 0
  rw [Rat.zero_mul,Rat.zero_mul,Rat.pow_zero,Rat.mul_one]
  simp only [Rat.zero_add]
  exact Rat.add_comm _ _
 ·show 0+f 0*y^0+f 1*y^1+f 2*y^2=0*y^3+f 2*y^2+f 1*y^1+f 0
  rw [Rat.zero_mul,Rat.pow_zero,Rat.mul_one]
  simp only [Rat.zero_add]
  simp only [Rat.add_assoc,Rat.add_comm,Rat.add_left_comm]
 ·show 0+f 0*y^0+f 1*y^1+f 2*y^2+f 3*y^3=f 3*y^3+f 2*y^2+f 1*y^1+f 0
  rw [Rat.pow_zero,Rat.mul_one]
  simp only [Rat.zero_add]
  simp only [Rat.add_assoc,Rat.add_comm,Rat.add_left_comm]
theorem oJ {e:Nat}{f:Nat→Rat}(hf:∀j,Bd (f j) 1)(k:Nat):Bd (((List.range (e+1)).map f).getD k 0) 1:=by
 rw [List.getD_eq_getElem?_getD,List.getElem?_map]
 cases (List.range (e+1))[k]? with
 |none=>exact Bd.zero 1
 |some j=>exact hf j
section
variable {d e:Nat}{term made:V}{α:Rat}{f:Nat→Rat}
noncomputable def sT (α:Rat)(f:Nat→Rat)(x:Int)(r:Rat)(k:Nat):Rat:=r+f k*((x:Rat)+ -α)^k
theorem ZL {fk w:Rat}(hfs:Sm fk)(hfd:fk.den≤64)(hn8:w.num.natAbs≤2^12)(hd8:w.den≤8):(Int.mul fk.num w.num).natAbs<2^40∧fk.den*w.den<2^19:=by
 constructor
 ·show (fk.num*w.num).natAbs<2^40
  rw [Int.natAbs_mul]
  exact Nat.lt_of_le_of_lt (Nat.mul_le_mul (Nat.le_of_lt hfs.1) hn8) (by decide)
 ·exact Nat.lt_of_le_of_lt (Nat.mul_le_mul hfd hd8) (by decide)
theorem SR {r fk w:Rat}{c:Nat}(hr:Bv r c)(hc:c≤16)(hf:Bd fk 1)(hw:∃m:Int,w=mkRat m 8∧m.natAbs≤2^12):Cn (d+60) 85 [.v (qv r),.v (.tup [.int (Int.mul fk.num w.num),.int (Int.mul fk.den w.den)])]=some (qv (r+fk*w),.un):=by
 have hd8:w.den≤8:=by
  refine aD hw fun m hm _=>?_
  refine (Eq.symm hm)▸?_;exact mS m (by decide)
 have hn8:w.num.natAbs≤2^12:=by
  refine aD hw fun m hm hm2=>?_
  refine (Eq.symm hm)▸?_;exact Nat.le_trans (tR m 8) hm2
 have hfd:fk.den≤64:=by
  refine aD hf fun m hm _=>?_
  refine (Eq.symm hm)▸?_;exact mS m (by decide)
 refine aF (ZL (hf.sm (by decide)) hfd hn8 hd8) fun h1 h2=>?_
 rw [show Int.mul fk.den w.den=((fk.den*w.den:Nat):Int) from (Int.natCast_mul _ _).symm,pZ (d:=d+57) (hr.sl hc) h1 (Nat.mul_ne_zero fk.den_nz w.den_nz) h2,Rat.mul_def' fk];rfl
theorem anL {x:Int}(hx:x∈zI):Sl (x:Rat):=by
 have:x.natAbs≤5:=by
  simp only [zI,List.mem_cons,List.not_mem_nil,or_false] at hx
  rcases hx with rfl|rfl|rfl<;>decide
 exact ⟨by rw [Rat.num_intCast];lia,by rw [Rat.den_intCast];decide⟩
theorem aeM {x:Int}(hx:x∈zI)(hB:Bd (-α) 1):Cn (d+60) 85 [.v (.tup [.int x,.int 1]),.v (.tup [.int (Int.sub 0 α.num),.int α.den])]=some (qv ((x:Rat)+ -α),.un):=by
 have e1:V.tup [.int (Int.sub 0 α.num),.int α.den]=qv (-α):=by
  rw [qv,Rat.neg_num,Rat.neg_den,show Int.sub 0 α.num= -α.num from Int.zero_sub _]
 refine (Eq.symm e1)▸?_
 exact LX (d:=d+57) (r:=(x:Rat)) (anL hx) (MF hB (by decide))
theorem aeN {x:Int}{k:Nat}(hA: -α∈nG)(hx:x∈zI)(hk:k≤3):Cn (d+60) 86 [.v (qv ((x:Rat)+ -α)),.v (.int (.ofNat k))]=some (qv (((x:Rat)+ -α)^k),.un):=by
 have hp81:=jK hA hx (show 1≤3 by decide)
 rw [Rat.pow_one] at hp81
 refine qA (d:=d+57) (SK hp81) (by lia) ?_
 rw [←Rat.den_pow]
 refine aD (jK hA hx hk) fun m hm _=>?_
 rw [hm];exact Nat.lt_of_le_of_lt (mS m (by decide)) (by decide)
section
variable {β:Type}{q:V→Fm→Option β}{a:aE}{x:Int}{c k:Nat}{r:Rat}{s5 s6 s7 s8 s9 s10 s11:aE}{R:V}
theorem ZM (hα:α∈iR)(hf:∀j,Bd (f j) 1)(hx:x∈zI)(hk:k≤3)(hr:Bv r c)(hc:c≤4):
  mO (Cn (d+60)) β q b41 (fM a e term (qv α) R s5 s6 (.v (.int x)) (.v (qv r)) (.v (.int (.ofNat k))) (.v (qv (f k))) s11 .un) (fM a e term (qv α) R s5 s6 (.v (.int x)) (.v (qv (sT α f x r k))) (.v (.int (.ofNat k))) (.v (qv (f k))) (.v (qv (((x:Rat)+ -α)^k))) .un):=
 aF (oH hα) fun hA hB=>
 have hfs:=(hf k).sm (by decide)
 iE (aeI (aeM hx hB) (aeN hA hx hk)) (aeJ (Nat.lt_trans hfs.1 (by decide)) (by rw [Int.natAbs_natCast];exact Nat.lt_trans hfs.2 (by decide)) (SR hr (by lia) (hf k) (jK hA hx hk)))
def aeO (a:aE)(e:Nat)(term made:V)(α:Rat)(R:V)(x:Int)(c:Nat)(r:Rat)(ρ:Fm):Prop:=(c≤4∧Bv r (4 - c))∧∃s9 s10 s11,ρ=fM a e term (qv α) R (.v (nv α)) (.v made) (.v (.int x)) (.v (qv r)) s9 s10 s11 .un
theorem aeP (hα:α∈iR)(he:e≤3)(hf:∀j,Bd (f j) 1)(hx:x∈zI):∃τ,aeO a e term made α (.lst (qL (e+1) f)) x 0 ((List.range (e+1)).foldl (sT α f x) 0) τ∧
  Es (Cn (d+60)) β q (cK b4 1) (fM a e term (qv α) (.lst (qL (e+1) f)) (.v (nv α)) (.v made) (.v (.int x)) (.v (qv 0)) s9 s10 s11 .un) τ:=
 gZ (val:=fun k=>V.tup [.int (.ofNat k),qv (f k)]) (L:=List.range (e+1)) (aeO a e term made α (.lst (qL (e+1) f)) x) (sT α f x) 13 rfl
  (fun K=>congrArg (fun l=>K l _) BR) (fun _ _ _ ⟨_,_,_,_,e⟩=>e▸rfl) ⟨⟨by refine (Eq.symm List.length_range)▸?_;lia,Bv.zero _⟩,_,_,_,rfl⟩ (by
   rintro k hk c r ρ ⟨⟨hc,hr⟩,s9,s10,s11,rfl⟩
   rw [List.mem_range] at hk
   exact ⟨_,_,fun _=>rfl,⟨⟨by lia,(hr.add (MB (hf k) (jK (oH hα).1 hx (show k≤3 by lia)))).mono (by lia)⟩,_,_,_,rfl⟩,ZM hα hf hx (by lia) hr (by lia)⟩)
theorem aeQ (hα:α∈iR)(he:e≤3)(hf:∀j,Bd (f j) 1)(hm:made=dR (-α) ((List.range (e+1)).map f))(hx:x∈zI):
  ∃s8' s9' s10' s11',mO (Cn (d+60)) β q b4 (fM a e term (qv α) (.lst (qL (e+1) f)) (.v (nv α)) (.v made) (.v (.int x)) s8 s9 s10 s11 .un) (fM a e term (qv α) (.lst (qL (e+1) f)) (.v (nv α)) (.v made) (.v (.int x)) s8' s9' s10' s11' .un):=by
 refine eS fun gG gH=>?_;refine aF (oH hα) fun hA hB=>?_
 refine aD (aeP (d:=d) (β:=β) (q:=q) (a:=a) (term:=term) (made:=made) (s9:=s9) (s10:=s10) (s11:=s11) hα he hf hx) fun τ ai7 h=>?_;obtain ⟨_,s9',s10',s11',rfl⟩:=ai7
 refine gH ?_;refine (zZ _ s9' s10' s11' (dJ (bU (v:=qv 0) (fun _=>rfl) rfl) (iE h (aeK ?_))))
 refine (Eq.symm hm)▸?_
 refine Eq.trans ?_ (congrArg (fun z=>some (qv z,aE.un)) (EY he (f:=f) (y:=(x:Rat)+ -α)).symm)
 exact SM (d:=d+50) hA hB hx (oJ hf 0) (oJ hf 1) (oJ hf 2) (oJ hf 3) rfl rfl rfl rfl
def anM (a:aE)(e:Nat)(term made:V)(α:Rat)(R:V)(_:Nat)(_:Unit)(ρ:Fm):Prop:=∃s7 s8 s9 s10 s11,ρ=fM a e term (qv α) R (.v (nv α)) (.v made) s7 s8 s9 s10 s11 .un
theorem anN (hα:α∈iR)(he:e≤3)(hf:∀j,Bd (f j) 1)(hm:made=dR (-α) ((List.range (e+1)).map f))
  (hmade:Cn (d+60) 82 [.v term,.v (.str 17),.v (nv α),.v (nk e)]=some (made,.un)):
  ∃s7 s8 s9 s10 s11,mO (Cn (d+60)) β q sD (fM a e term (qv α) (.lst (qL (e+1) f)) .un .un .un .un .un .un .un .un) (fM a e term (qv α) (.lst (qL (e+1) f)) (.v (nv α)) (.v made) s7 s8 s9 s10 s11 .un):=by
 refine eS fun gG gH=>?_;obtain ⟨τ,⟨s7,s8,s9,s10,s11,rfl⟩,h⟩:=gZ (C:=Cn (d+60)) (q:=q) (xs:=[7]) (sr:=.val (.tup [.int 0,.int 2,.int 5])) (b:=b4) (ρ:=fM a e term (qv α) (.lst (qL (e+1) f)) (.v (nv α)) (.v made) .un .un .un .un .un .un) (val:=V.int) (L:=zI) (s:=()) (anM a e term made α (.lst (qL (e+1) f))) (fun _ _=>()) 13 rfl
  (fun K=>rfl) (fun _ _ _ ⟨_,_,_,_,_,e⟩=>e▸rfl) ⟨_,_,_,_,_,rfl⟩ (by
   rintro x hx c _ ρ ⟨s7,s8,s9,s10,s11,rfl⟩
   refine FZ (aeQ (d:=d) (β:=β) (q:=q) (a:=a) (term:=term) (made:=made) (s8:=s8) (s9:=s9) (s10:=s10) (s11:=s11) hα he hf hm hx) fun s8' s9' s10' s11' h=>?_
   exact (bM _ _ ⟨fun _=>rfl,(ei5 _ _ _ _ _ rfl),h⟩))
 refine gH ?_;exact (ei5 s7 s8 s9 s10 s11 (fun κ=>(aeL hmade _).trans (h κ)))
end
end
noncomputable def mV:List S:=[cK f_law_beginning.body 2,cK f_law_beginning.body 3,cK f_law_beginning.body 4,cK f_law_beginning.body 5]
noncomputable def SS (d:Nat)(s:List V)(e f:Int)(pl:V):Option (V×aE):=aU (aT (d+50)) glb mV _ [.l s,.v (.int e),.v (.int f),.v pl,.un,.un,.un,.un,.un,.un,.un,.un,.un] (aC true .none) (aC true)
noncomputable def EZ (d:Nat)(β:Type)(s:List V)(e:Int)(v:V)(k:Fm→Option β)(q:V→Fm→Option β):Option β:=match v with
 |.tup l=>match l with
  |[t,p,r]=>aU (aT (d+60)) glb sD β [.l s,.v (.int e),.v t,.v p,.v r,.un,.un,.un,.un,.un,.un,.un,.un] k q
  |_=>none
 |_=>none
noncomputable def iV (e f:Int)(pl:V):V:=match SS 0 [] e f pl with
 |some r=>r.1
 |none=>.none
noncomputable def frB (e:Int)(v:V):Fm:=match EZ 0 Fm [] e v some fun _ _=>none with
 |some r=>r.tail
 |none=>[]
noncomputable def VB:List Int:=[0,1,2,3]
theorem aeR (d:Nat)(β:Type)(s:List V)(k:Fm→Option β)(q:V→Fm→Option β):(VB.map fun e=>iR.map fun α=>(SS d s e 1 (qv α),EZ d β s e (iV e 1 (qv α)) k q))=VB.map fun e=>iR.map fun α=>(some (iV e 1 (qv α),.l s),k (.l s::frB e (iV e 1 (qv α)))):=by kernel_rfl
theorem aeS (d:Nat)(β:Type)(s:List V)(pl:V)(k:Fm→Option β)(q:V→Fm→Option β):(VB.map fun e=>[2,3].map fun f=>(SS d s e f pl,EZ d β s e (iV e f .none) k q))=VB.map fun e=>[2,3].map fun f=>(some (iV e f .none,.l s),k (.l s::frB e (iV e f .none))):=by kernel_rfl
noncomputable def cv (v:V)(i:Nat):V:=(vD v i some).getD .none
noncomputable def aeT (v:V):Int:=match v with
 |.int i=>i
 |_=>0
noncomputable def slV (s:aE):V:=match s with
 |.v x=>x
 |_=>.none
noncomputable def mkV (v:V):V:=.tup [cv v 0,cv v 1,cv v 2]
noncomputable def mkF (e:Int)(v:V)(ρ:Fm):Fm:=[.v (.int e),.v (cv v 0),.v (cv v 1),.v (cv v 2),.v (.tup [.str 0,.int (aeT (cv (slV (ρ.at 4)) 1)),.int (aeT (cv (slV (ρ.at 4)) 2))]),ρ.at 5,ρ.at 6,ρ.at 7,ρ.at 8,ρ.at 9,ρ.at 10,ρ.at 11]
theorem okB:(VB.map fun e=>(iR.map fun α=>(iV e 1 (qv α),frB e (iV e 1 (qv α))),[2,3].map fun f=>(iV e f .none,frB e (iV e f .none))))=
  VB.map fun e=>(iR.map fun α=>(mkV (iV e 1 (qv α)),mkF e (iV e 1 (qv α)) (frB e (iV e 1 (qv α)))),[2,3].map fun f=>(mkV (iV e f .none),mkF e (iV e f .none) (frB e (iV e f .none)))):=by kernel_rfl
inductive qC (e:Nat):V→Prop
 |a {ns:List Int} {α:Rat}:ns.length≤4→(∀c∈ns,gN c)→α∈iR→qC e (.tup [dR 0 (qB ns),qv α,.lst (qL (e+1) (jJ α (iL ns 0) (iL ns 1) (iL ns 2) (iL ns 3)))])
 |b {α:Rat}:α∈iR→qC e (iV (.ofNat e) 1 (qv α))
 |c {f:Int}:f=2∨f=3→qC e (iV (.ofNat e) f .none)
theorem ST {d r1 r2:Nat}(h1:r1<5)(h2:r2<2):∃α,α∈iR∧Cn (d+2) 84 [.v (.int (Int.sub (.ofNat r1) 2)),.v (.int (Int.add 1 (.ofNat r2)))]=some (qv α,.un):=by
 have hh:Int.add 1 (.ofNat r2)=((1+r2:Nat):Int):=by
  show (1:Int)+(r2:Int)=((1+r2:Nat):Int)
  lia
 refine ⟨mkRat (Int.sub (.ofNat r1) 2) (1+r2),?_,?_⟩
 ·have c1:r1=0∨r1=1∨r1=2∨r1=3∨r1=4:=by lia
  have c2:r2=0∨r2=1:=by lia
  rcases c2 with rfl|rfl<;>rcases c1 with rfl|rfl|rfl|rfl|rfl<;>decide+kernel
 ·rw [hh];exact mD (by lia) (by lia)
theorem SU {d m e:Nat}{s:List V}(hs:iX s (9+m))(he:e≤3):∃v s',qC e v∧iX s' m∧Cn (d+52) 90 [.l s,.v (.int (.ofNat e))]=some (v,.l s'):=by
 refine bN (eI (d:=d+49) (m:=4) (n:=8+m) (by rw [show 8+m+1=9+m by lia];exact hs) (by decide)) fun r0 s0 h0 p0 hs0=>?_
 refine bN (eI (d:=d+49) (m:=5) (n:=7+m) (by rw [show 7+m+1=8+m by lia];exact hs0) (by decide)) fun r1 s1 h1 p1 hs1=>?_
 refine bN (eI (d:=d+49) (m:=2) (n:=6+m) (by rw [show 6+m+1=7+m by lia];exact hs1) (by decide)) fun r2 s2 h2 p2 hs2=>?_
 refine aD (ST (d:=d+49) h1 h2) fun α hα pα=>?_
 let F0:Fm:=[.l s,.v (.int (.ofNat e)),.un,.un,.un,.un,.un,.un,.un,.un,.un,.un,.un]
 let F2:Fm:=[.l s2,.v (.int (.ofNat e)),.v (.int (.ofNat r0)),.v (qv α),.un,.un,.un,.un,.un,.un,.un,.un,.un]
 have hrun:Cn (d+52) 90 [.l s,.v (.int (.ofNat e))]=aU (Cn (d+51)) glb (cK f_law_beginning.body 1::mV) _ F2 (aC true .none) (aC true):=by
  refine (show Cn (d+52) 90 [.l s,.v (.int (.ofNat e))]=kS (Cn (d+51)) glb (cK f_law_beginning.body 0) _ F0 (fun ρ=>aU (Cn (d+51)) glb (cK f_law_beginning.body 1::mV) _ ρ (aC true .none) (aC true)) (aC true) from rfl).trans ?_
  refine (ad8.2 _ _ _ _ _ _).trans ?_
  simp only [ad8,show Cn (d+51) 83 [.l s,.v (.int 4)]=_ from p0,aB,show Cn (d+51) 83 [.l s0,.v (.int 5)]=_ from p1,oA,show Cn (d+51) 83 [.l s1,.v (.int 2)]=_ from p2,BA,pα,show Nat.beq (0+1+1) (0+1+1)=true from rfl,aI];rfl
 by_cases hr0:r0=0
 ·subst hr0
  refine eM (ZK (d:=d+1) (q:=aC true) hs2 hα he) fun ns q1 q2 ai6=>?_;obtain ⟨s',F,q3,hF,q4⟩:=ai6
  refine (bM _ s' ⟨.a q1 q2 hα,q3,hrun.trans ?_⟩)
  have hk:aU (Cn (d+51)) glb (cK f_law_beginning.body 1::mV) (V×aE) [.l s2,.v (.int (.ofNat e)),.v (.int 0),.v (qv α),.un,.un,.un,.un,.un,.un,.un,.un,.un] (aC true .none) (aC true)=
    aU (Cn (d+51)) glb bA0 (V×aE) [.l s2,.v (.int (.ofNat e)),.v (.int 0),.v (qv α),.un,.un,.un,.un,.un,.un,.un,.un,.un] (fun ρ=>aU (Cn (d+51)) glb mV (V×aE) ρ (aC true .none) (aC true)) (aC true):=by kernel_rfl
  refine hk.trans ((q4 _).trans ?_)
  unfold aC
  rw [hF];rfl
 ·have hs1':aU (Cn (d+51)) glb (cK f_law_beginning.body 1::mV) _ F2 (aC true .none) (aC true)=SS d s2 (.ofNat e) (.ofNat r0) (qv α):=by
   refine (?_:(qN (.int (.ofNat r0)) (.int 0) fun t=>dG (.bool t) fun c=>cond c _ _)=_)
   rw [JZ,AZ hr0];rfl
  have hpen:iX s2 m:=by
   refine dA hs2 fun l k t e1 e2 e3=>?_
   exact (gE l k t ⟨e1,e2,by lia⟩)
  have hee:(Int.ofNat e)∈VB:=by
   have:e=0∨e=1∨e=2∨e=3:=by lia
   rcases this with rfl|rfl|rfl|rfl<;>decide
  have c0:r0=1∨r0=2∨r0=3:=by lia
  rcases c0 with rfl|hc
  ·have h:=List.map_inj_left.mp (List.map_inj_left.mp (aeR d Fm s2 some fun _ _=>none) _ hee) α hα
   exact (bM _ s2 ⟨.b hα,hpen,hrun.trans (hs1'.trans (Prod.mk.inj h).1)⟩)
  ·have h:=List.map_inj_left.mp (List.map_inj_left.mp (aeS d Fm s2 (qv α) some fun _ _=>none) _ hee) (Int.ofNat r0) (by rcases hc with rfl|rfl<;>decide)
   exact (bM _ s2 ⟨.c (f:=Int.ofNat r0) (by rcases hc with rfl|rfl<;>decide),hpen,hrun.trans (hs1'.trans (Prod.mk.inj h).1)⟩)
theorem gR {ns:List Int}{k:Nat}:(qB ns).getD k 0=iL ns k:=by
 rw [qB,iL,List.getD_eq_getElem?_getD,List.getD_eq_getElem?_getD,List.getElem?_map]
 cases ns[k]? <;>rfl
noncomputable def atV (p q:Int):V:=.tup [.str 0,.int p,.int q]
theorem oK {e:Nat}(he:e≤3):(Int.ofNat e)∈VB:=by
 have:e=0∨e=1∨e=2∨e=3:=by lia
 rcases this with rfl|rfl|rfl|rfl<;>decide
theorem aeU {d e:Nat}{v:V}{s:List V}(he:e≤3)(hv:qC e v){β:Type}{k:Fm→Option β}{q:V→Fm→Option β}:∃t p r x y s6 s7 s8 s9 s10 s11 s12,v=.tup [t,p,r]∧
  aU (Cn (d+61)) glb sD β [.l s,.v (.int (.ofNat e)),.v t,.v p,.v r,.un,.un,.un,.un,.un,.un,.un,.un] k q=k [.l s,.v (.int (.ofNat e)),.v t,.v p,.v r,.v (atV x y),s6,s7,s8,s9,s10,s11,s12]:=by
 have key:∀(v:V) (F:Fm),EZ d β s (.ofNat e) v k q=k (.l s::F)→v=mkV v→F=mkF (.ofNat e) v F→∃t p r x y s6 s7 s8 s9 s10 s11 s12,v=.tup [t,p,r]∧
   aU (Cn (d+61)) glb sD β [.l s,.v (.int (.ofNat e)),.v t,.v p,.v r,.un,.un,.un,.un,.un,.un,.un,.un] k q=k [.l s,.v (.int (.ofNat e)),.v t,.v p,.v r,.v (atV x y),s6,s7,s8,s9,s10,s11,s12]:=by
  intro v F h1 h2 h3
  rw [h3] at h1
  have h4:EZ d β s (.ofNat e) (mkV v) k q=EZ d β s (.ofNat e) v k q:=by exact h2▸rfl
  exact (aa7 _ _ _ _ _ _ _ _ _ _ _ _ ⟨h2,h4.trans h1⟩)
 cases hv with
 | @a ns α q1 q2 hα=>
  have hb:=tY hα (cT (dF q2 0)) (cT (dF q2 1)) (cT (dF q2 2)) (cT (dF q2 3))
  have ht:Cn (d+61) 82 [.v (dR 0 (qB ns)),.v (.str 17),.v (nv α),.v (nk e)]=_:=wM (d:=d+10) (e:=e) (cs:=qB ns) hα he (cT (dF q2 0)) (cT (dF q2 1)) (cT (dF q2 2)) (cT (dF q2 3)) gR gR gR gR
  refine aaZ (anN (d:=d+1) (a:=.l s) (q:=q) hα he hb rfl ht) fun s7 s8 s9 s10 s11 h=>?_
  exact (aa7 _ _ _ _ _ _ _ _ _ _ _ _ ⟨rfl,h k⟩)
 | @b α hα=>
  have h:=List.map_inj_left.mp (List.map_inj_left.mp (aeR d β s k q) _ (oK he)) α hα
  have ho:=List.map_inj_left.mp (Prod.mk.inj (List.map_inj_left.mp okB _ (oK he))).1 α hα
  exact key _ _ (Prod.mk.inj h).2 (Prod.mk.inj ho).1 (Prod.mk.inj ho).2
 | @c f hf=>
  have hm:f∈([2,3]:List Int):=by rcases hf with rfl|rfl<;>decide
  have h:=List.map_inj_left.mp (List.map_inj_left.mp (aeS d β s .none k q) _ (oK he)) f hm
  have ho:=List.map_inj_left.mp (Prod.mk.inj (List.map_inj_left.mp okB _ (oK he))).2 f hm
  exact key _ _ (Prod.mk.inj h).2 (Prod.mk.inj ho).1 (Prod.mk.inj ho).2
noncomputable def zK:List S:=cK f_law_beginning_right.body 0::cK f_law_beginning_right.body 1::(sD++[cK f_law_beginning_right.body 5])
noncomputable def kZ (x y:Int):List V:=[.tup [atV x y,.tup [.str 0,.int (-1),.int 1]],.tup [atV x y,.tup [.str 0,.int 1,.int 2]],.tup [.tup [.str 1,.str 20],.tup [.str 0,.int 1,.int 1]],.tup [atV x y,.tup [.str 1,.str 19]]]
theorem ZN {d m:Nat}{s:List V}(hs:iX s (12+m)){β:Type}{k:Fm→Option β}{q:V→Fm→Option β}:∃e t p r x y s6 s7 s8 s9 s10 s11 w s',iX s' m∧w∈kZ x y∧
  aU (Cn (d+61)) glb zK β [.l s,.un,.un,.un,.un,.un,.un,.un,.un,.un,.un,.un,.un] k q=k [.l s',.v (.int e),.v t,.v p,.v r,.v (atV x y),s6,s7,s8,s9,s10,s11,.v w]:=by
 refine eS fun gG gH=>?_;refine bN (eI (d:=d+59) (m:=4) (n:=11+m) (by rw [show 11+m+1=12+m by lia];exact hs) (by decide)) fun e s1 he p1 hs1=>?_
 refine bN (SU (d:=d+9) (m:=2+m) (e:=e) (by rw [show 9+(2+m)=11+m by lia];exact hs1) (by lia)) fun v s2 hv hs2 p2=>?_
 refine VT (aeU (d:=d) (s:=s2) (show e≤3 by lia) hv (k:=fun ρ=>aU (Cn (d+61)) glb [cK f_law_beginning_right.body 5] β ρ k q) (q:=q)) fun t p r x y s6 s7 s8 s9 s10 s11 s12 ai3 hmid=>?_;subst ai3
 refine bN (eI (d:=d+59) (m:=4) (n:=1+m) (by rw [show 1+m+1=2+m by lia];exact hs2) (by decide)) fun u s3 hu p3 hs3=>?_
 refine gH ?_;obtain ⟨w,hw⟩:∃w,(kZ x y)[u]? =some w:=⟨(kZ x y)[u]'hu,List.getElem?_eq_getElem hu⟩
 refine ⟨.ofNat e,t,p,r,x,y,s6,s7,s8,s9,s10,s11,w,s3,?_,List.mem_of_getElem? hw,?_⟩
 ·refine dA hs3 fun l k t e1 e2 e3=>?_
  exact ⟨l,k,t,e1,e2,by lia⟩
 refine (?_:(Cn (d+61) 83 [.l s,.v (.int 4)]).bind _=_)
 rw [show Cn (d+61) 83 [.l s,.v (.int 4)]=_ from p1]
 refine (?_:(Cn (d+61) 90 [.l s1,.v (.int (.ofNat e))]).bind _=_)
 rw [show Cn (d+61) 90 [.l s1,.v (.int (.ofNat e))]=_ from p2]
 refine (?_:aU (Cn (d+61)) glb (sD++[cK f_law_beginning_right.body 5]) β [.l s2,.v (.int (.ofNat e)),.v t,.v p,.v r,.un,.un,.un,.un,.un,.un,.un,.un] k q=_)
 rw [nZ,hmid]
 refine (?_:(Cn (d+61) 83 [.l s2,.v (.int 4)]).bind _=_)
 rw [show Cn (d+61) 83 [.l s2,.v (.int 4)]=_ from p3,aB]
 refine (?_:oU (.lst (kZ x y)) (.int (.ofNat u)) _=_)
 rw [dY hw (by lia)];rfl
noncomputable def eJ:V:=.tup [.str 1,.str 20]
noncomputable def eV:V:=.tup [.str 1,.str 21]
noncomputable def anP:V:=.tup [.str 1,.str 22]
noncomputable def BZ:V:=.tup [.str 3,.tup [.tup [.str 0,.int (-1),.int 1],eJ]]
noncomputable def cI:List Int:=[-2, -1,0,1,2]
noncomputable def mW:List Int:=[1, -1,2]
noncomputable def ZO (l:List Int):Int:=l.getLast?.getD 0
noncomputable def zL (l:List Int):Bool:=lD (Int.mul (ZO l) ((-1)^(l.length - 1))) 0
noncomputable def SV (d:Nat)(l:List Int):Option (V×aE)×Option (V×aE):=(aT (d+40) 49 [.v (dR 0 (qB l)),.v (.str 17),.v (.str 20),.v (.int 0)],aT (d+40) 49 [.v (dR 0 (qB l)),.v (.str 17),.v (.str 23),.v (.int 0)])
noncomputable def SW (l:List Int):Option (V×aE)×Option (V×aE):=(some (cond (lD 0 (ZO l)) (.str 20) (.str 23),.un),some (cond (zL l) (.str 23) (.str 20),.un))
theorem anQ (d:Nat):(mW.map fun l=>cI.map fun a=>SV d [a,l])=mW.map fun l=>cI.map fun a=>SW [a,l]:=by kernel_rfl
theorem anR (d:Nat):(mW.map fun l=>cI.map fun a=>cI.map fun b=>SV d [a,b,l])=mW.map fun l=>cI.map fun a=>cI.map fun b=>SW [a,b,l]:=by kernel_rfl
theorem anS (d:Nat):(mW.map fun l=>cI.map fun a=>cI.map fun b=>cI.map fun c=>SV d [a,b,c,l])=mW.map fun l=>cI.map fun a=>cI.map fun b=>cI.map fun c=>SW [a,b,c,l]:=by kernel_rfl
noncomputable def aeV (n m:Int):V:=.tup [.str 4,.tup [.str 2,.tup [sx,.tup [.str 0,.int (Int.sub 0 n),.int 1]]],.tup [.str 0,.int (Int.sub 0 m),.int 1]]
noncomputable def zM (n m:Int):V:=match aT 40 79 [.v (aeV n m)] with
 |some r=>r.1
 |none=>.none
noncomputable def wQ (m side:Int):V:=cond (iW (Int.fmod m 2) 0||iW side 1) eJ (cond (iW side (-1)) eV anP)
noncomputable def ZP:List Int:=[0,1, -1]
theorem CB (d:Nat):(cI.map fun n=>[1,2,3].map fun m=>(aT (d+40) 79 [.v (aeV n m)],[eJ,eV,BZ].map fun v=>aT (d+40) 81 [.v (zM n m),.v (.str 17),.v v,.v (.int 0)],ZP.map fun side=>aT (d+40) 81 [.v (zM n m),.v (.str 17),.v (.tup [.str 0,.int n,.int 1]),.v (.int side)]))=
  cI.map fun n=>[1,2,3].map fun m=>(some (zM n m,.un),[eJ,eV,BZ].map fun _=>some (nv 0,.un),ZP.map fun side=>some (wQ m side,.un)):=by kernel_rfl
theorem uE {d n:Nat}{v side:V}{f:Nat→Rat}(hv:iU v n f)(hn:1≤n):Cn (d+3) 45 [.v v,.v side]=some (qv (f 0),.un):=by
 refine iY hv.ex fun low m ai8 h1 h2 h3 h4=>?_;subst ai8
 refine (show QN.1 (Cn (d+2)) _ _=_ from ?_)
 have hd:(m.drop (tz m)).length=m.length - tz m:=List.length_drop
 have ht:=VA m
 have h0:(List.replicate low jI++m)[0]? =some (qv (f 0)):=by
  have:(List.take n (List.replicate low jI++m))[0]? =((List.range n).map fun j=>qv (f j))[0]? :=congrArg (fun l=>l[0]?) h4
  rw [List.getElem?_take_of_lt hn,List.getElem?_map,List.getElem?_range hn] at this
  exact this
 simp only [QN,BQ (d:=d) h1 (show m.length≤20 by lia),aB,GH,cS (show (m.drop (tz m)).length≤1000 by refine (Eq.symm hd)▸?_;lia),aI,JZ,dG,show ∀(q:Bool→Option V),qO (.int 0) (.int (.ofNat (low+tz m))) q=q (Nat.blt 0 (low+tz m)) from fun _=>rfl]
 by_cases hz:(m.drop (tz m)).length=0∨0<low+tz m
 ·have hq:qv (f 0)=jI:=by
   have h5:=wJ low m
   rw [←h5] at h0
   rcases Nat.eq_zero_or_pos (low+tz m) with h6|h6
   ·have h7:m.drop (tz m)=[]:=List.eq_nil_of_length_eq_zero (by lia)
    rw [h6,h7] at h0;cases h0
   ·rw [List.getElem?_append_left (by rw [List.length_replicate];exact h6),List.getElem?_replicate,if_pos h6] at h0
    exact (Option.some.inj h0).symm
  have hb:(cond (iW (.ofNat (m.drop (tz m)).length) 0) (some (V.bool true)) (some (.bool (Nat.blt 0 (low+tz m)))))=some (V.bool true):=by
   rcases hz with hz|hz
   ·refine (Eq.symm hz)▸?_;rfl
   ·refine (Eq.symm (Nat.blt_eq.mpr hz))▸?_;cases iW (.ofNat (m.drop (tz m)).length) 0<;>rfl
  refine (Eq.symm hb)▸?_;refine (Eq.symm hq)▸?_;rfl
 ·have h6:low+tz m=0:=by lia
  have hlow:low=0:=by lia
  have htz:tz m=0:=by lia
  subst hlow
  rw [htz,List.drop_zero] at hz ⊢
  have hm0:m.length≠0:=by lia
  rw [List.replicate_zero,List.nil_append] at h0
  obtain ⟨x,r,rfl⟩:∃x r,m=x::r:=by
   cases m with
   |nil=>exact absurd rfl hm0
   |cons x r=>exact (bM x r rfl)
  cases h0
  rfl
theorem ZQ {d:Nat}{side:V}{α c0 c1 c2 c3:Rat}{cs:List Rat}(hα:α∈iR)(h0:c0∈nO)(h1:c1∈nO)(h2:c2∈nO)(h3:c3∈nO)
  (e0:cs.getD 0 0=c0) (e1:cs.getD 1 0=c1) (e2:cs.getD 2 0=c2) (e3:cs.getD 3 0=c3):
  Cn (d+30) 81 [.v (dR 0 cs),.v (.str 17),.v (nv α),.v side]=some (nv (jJ α c0 c1 c2 c3 0),.un):=by
 refine aD (sA (n:=5) (d:=d+4) hα h0 h1 h2 h3 (by decide) e0 e1 e2 e3) fun v hv ht=>?_
 have hb:=(tY hα h0 h1 h2 h3 0).sm (by decide)
 have hl:=rY (d:=d+25) (e:=3) (a:=LB α) (by decide) (by decide) ht hv
 have c46:Cn (d+28) 46 [.v (dR 0 cs),.v (.str 17),.v (qv α),.v side]=some (qv (jJ α c0 c1 c2 c3 0),.un):=by
  refine (show XI.1 (Cn (d+27)) _ _ _ _=_ from ?_)
  refine eG hl ?_
  exact eG (uE (d:=d+24) ht (by decide)) rfl
 have q20:∀{β:Type} {r:Rat} {k:Bool→Option β},qN (qv r) (.str 20) k=k false:=fun {β r k}=>rfl
 have q23:∀{β:Type} {r:Rat} {k:Bool→Option β},qN (qv r) (.str 23) k=k false:=fun {β r k}=>rfl
 have c49:Cn (d+29) 49 [.v (dR 0 cs),.v (.str 17),.v (qv α),.v side]=some (qv (jJ α c0 c1 c2 c3 0),.un):=by
  refine (show QO.1 (Cn (d+28)) _ _ _ _=_ from ?_)
  simp only [QO,q20,q23,dG,aN,aB,c46]
 have c80:Cn (d+29) 80 [.v (nv α)]=some (qv α,.un):=by
  have:∀p q:Int,aT (d+28) 80 [.v (kU p q)]=some (.tup [.int p,.int q],.un):=fun p q=>by kernel_rfl
  exact bZ (this _ _)
 refine (show EL.1 (Cn (d+29)) _ _ _ _=_ from ?_)
 simp only [EL,c80,aB,c49]
 refine (?_:dG (.bool false) _=_)
 simp only [dG,aN,q20,q23,RB,RC]
 rw [show Cn (d+29) 50 [.v (.int (jJ α c0 c1 c2 c3 0).num),.v (.int (jJ α c0 c1 c2 c3 0).den)]=_ from zE (d:=d+26) hb];rfl
theorem MN {d:Nat}{t en u w o:V}(h80:Cn (d+1) 80 [.v en]=some (u,.un))(h49:Cn (d+1) 49 [.v t,.v (.str 17),.v u,.v (.int 0)]=some (w,.un))(hw:w=.str 20∧o=eJ∨w=.str 23∧o=eV):
  Cn (d+2) 81 [.v t,.v (.str 17),.v en,.v (.int 0)]=some (o,.un):=by
 refine (show EL.1 (Cn (d+1)) _ _ _ _=_ from ?_)
 simp only [EL,h80,aB,h49]
 rcases hw with ⟨rfl,rfl⟩|⟨rfl,rfl⟩<;>rfl
noncomputable def VC:List S:=[cK f_law_limits_right.body 3,cK f_law_limits_right.body 4,cK f_law_limits_right.body 5,cK f_law_limits_right.body 6,cK f_law_limits_right.body 7,cK f_law_limits_right.body 8,cK f_law_limits_right.body 9]
theorem ZR {β:Type}{p q p' q':Int}{k:Bool→Option β}:qN (kU p q) (kU p' q') k=k (decide (p=p') && decide (q=q')):=by
 have e:qN (kU p q) (kU p' q') k=((some (iW p p')).bind fun t=>cond t ((some (iW q q')).bind fun t=>cond t (some true) (some false)) (some false)).bind k:=rfl
 rw [e,eB,eB]
 by_cases h1:p=p'
 ·by_cases h2:q=q'
  ·refine (Eq.symm (decide_eq_true h1))▸?_;refine (Eq.symm (decide_eq_true h2))▸?_;rfl
  ·refine (Eq.symm (decide_eq_true h1))▸?_;refine (Eq.symm (decide_eq_false h2))▸?_;rfl
 ·refine (Eq.symm (decide_eq_false h1))▸?_;rfl
noncomputable def VD (n:Int):Nat→List Int→Int
 |_,[]=>0
 |i,c::r=>Int.mul c (n^i)+VD n (i+1) r
theorem CC {n:Int}:∀{ns:List Int} {i:Nat},((VD n i ns:Int):Rat)=(ns.mapIdx fun (j:Nat) (c:Int)=>(c:Rat)*(n:Rat)^(i+j)).foldr (· + ·) 0
 |[],_=>rfl
 |c::r,i=>by
  rw [VD,Rat.intCast_add,show ((Int.mul c (n^i):Int):Rat)=(c:Rat)*(n:Rat)^i from by
   show ((c*n^i:Int):Rat)=_
   rw [Rat.intCast_mul,Rat.intCast_pow],CC (ns:=r),List.mapIdx_cons,List.foldr_cons,Nat.add_zero]
  congr 2
  refine congrArg (fun f=>List.mapIdx f r) ?_
  funext j c
  rw [show i+1+j=i+(j+1) by omega]
theorem pw0 {α:Rat}:pw α 0 0=α^0∧pw α 1 0=α^1∧pw α 2 0=α^2∧pw α 3 0=α^3:=by
 refine ⟨(Rat.pow_zero α).symm,(Rat.pow_one α).symm,?_,?_⟩
 ·rw [show (2:Nat)=1+1 from rfl,Rat.pow_succ,Rat.pow_one];rfl
 ·rw [show (3:Nat)=1+1+1 from rfl,Rat.pow_succ,Rat.pow_succ,Rat.pow_one];rfl
theorem MO {n:Int}{ns:List Int}(hn:ns.length≤4):jJ (n:Rat) (iL ns 0) (iL ns 1) (iL ns 2) (iL ns 3) 0=((VD n 0 ns:Int):Rat):=by
 refine uY (pw0 (α:=(n:Rat))) fun p0 p1 p2 p3=>?_
 rw [CC,jJ,p0,p1,p2,p3]
 have z:∀{ns:List Int} {k:Nat},ns.length≤k→iL ns k=0:=fun h=>wP h
 cases ns with
 |nil=>rw [z (by decide),z (by decide),z (by decide),z (by decide)];simp only [Rat.zero_mul,Rat.zero_add];rfl
 |cons a ns=>
 cases ns with
 |nil=>
  rw [z (k:=1) (Nat.le_of_ble_eq_true rfl),z (k:=2) (Nat.le_of_ble_eq_true rfl),z (k:=3) (Nat.le_of_ble_eq_true rfl)]
  simp only [Rat.zero_mul,Rat.zero_add]
  exact (Rat.add_zero _).symm
 |cons b ns=>
 cases ns with
 |nil=>
  rw [z (k:=2) (Nat.le_of_ble_eq_true rfl),z (k:=3) (Nat.le_of_ble_eq_true rfl)]
  simp only [Rat.zero_mul,Rat.zero_add]
  show (b:Rat)*n^1+a*n^0=a*n^0+(b*n^1+0)
  rw [Rat.add_zero,Rat.add_comm]
 |cons c ns=>
 cases ns with
 |nil=>
  rw [z (k:=3) (Nat.le_of_ble_eq_true rfl)]
  simp only [Rat.zero_mul,Rat.zero_add]
  show (c:Rat)*n^2+b*n^1+a*n^0=a*n^0+(b*n^1+(c*n^2+0))
  rw [Rat.add_zero]
  simp only [Rat.add_comm,Rat.add_left_comm]
 |cons e ns=>
 cases ns with
 |cons f ns=>exact absurd (Nat.le_of_add_le_add_right (b:=4) (show ns.length+1+4≤0+4 from hn)) (Nat.not_succ_le_zero _)
 |nil=>
  show (e:Rat)*n^3+c*n^2+b*n^1+a*n^0=a*n^0+(b*n^1+(c*n^2+(e*n^3+0)))
  rw [Rat.add_zero]
  simp only [Rat.add_assoc,Rat.add_comm,Rat.add_left_comm]
theorem CD {c:Int}(h:gN c):c∈cI:=by
 rcases h with rfl|rfl|rfl|rfl|rfl<;>decide
theorem MP {l:Int}(h:l∈mW):gN l:=by
 simp only [mW,List.mem_cons,List.not_mem_nil,or_false] at h
 rcases h with rfl|rfl|rfl
 ·exact .inr (.inr (.inr (.inl rfl)))
 ·exact .inr (.inl rfl)
 ·exact .inr (.inr (.inr (.inr rfl)))
theorem ZS {n:Int}(h:n∈cI):(n:Rat)∈iR:=by
 have:∀n∈cI,(n:Rat)∈iR:=by decide+kernel
 exact this n h
noncomputable def fL (a:aE)(r n m s t b:V)(s7 s8 s9 s10 s11 s12:aE):Fm:=[a,.v r,.v n,.v m,.v s,.v t,.v b,s7,s8,s9,s10,s11,s12]
noncomputable def wR:List S:=f_law_limits_right.body
section
variable {C:CF}{β:Type}{q:V→Fm→Option β}{κ:Fm→Option β}{a s7 s8 s9 s10 s11 s12:aE}{n m side l:Int}{as:List Int}{t b r n' m' s':V}{fl:Bool}
noncomputable def r4L (C:CF)(β:Type)(κ:Fm→Option β)(q:V→Fm→Option β)(a s7 s8 s9 s10 s11 s12:aE)(m s t b:V)(ns:List Int)(n:Int):Option β:=kS C glb (cK wR 4) β (fL a (dO ns) (.int n) m s t b s7 s8 s9 s10 s11 s12) κ q
noncomputable def r4R (β:Type)(κ:Fm→Option β)(a s7 s8 s10 s11 s12:aE)(m s t b:V)(ns:List Int)(n:Int):Option β:=κ (fL a (dO ns) (.int n) m s t b s7 s8 (.v (.int (VD n 0 ns))) s10 s11 s12)
theorem r41:(mW.map fun l=>cI.map fun x=>cI.map fun n=>r4L C β κ q a s7 s8 s9 s10 s11 s12 m' s' t b [x,l] n)=mW.map fun l=>cI.map fun x=>cI.map fun n=>r4R β κ a s7 s8 s10 s11 s12 m' s' t b [x,l] n:=by kernel_rfl
theorem r42:(mW.map fun l=>cI.map fun x=>cI.map fun y=>cI.map fun n=>r4L C β κ q a s7 s8 s9 s10 s11 s12 m' s' t b [x,y,l] n)=mW.map fun l=>cI.map fun x=>cI.map fun y=>cI.map fun n=>r4R β κ a s7 s8 s10 s11 s12 m' s' t b [x,y,l] n:=by kernel_rfl
theorem r43:(mW.map fun l=>cI.map fun x=>cI.map fun y=>cI.map fun z=>cI.map fun n=>r4L C β κ q a s7 s8 s9 s10 s11 s12 m' s' t b [x,y,z,l] n)=mW.map fun l=>cI.map fun x=>cI.map fun y=>cI.map fun z=>cI.map fun n=>r4R β κ a s7 s8 s10 s11 s12 m' s' t b [x,y,z,l] n:=by kernel_rfl
inductive Rw (l:Int):List Int→Nat→Prop
 |r1 {x}:x∈cI→Rw l [x,l] 1
 |r2 {x y}:x∈cI→y∈cI→Rw l [x,y,l] 2
 |r3 {x y z}:x∈cI→y∈cI→z∈cI→Rw l [x,y,z,l] 3
theorem aeW (h:∀c∈as,gN c)(h1:1≤as.length)(h3:as.length≤3):Rw l (as++[l]) as.length:=by
 cases as with
 |nil=>exact absurd h1 (by decide)
 |cons x as=>
 have hx:=CD (h x (.head _))
 cases as with
 |nil=>exact .r1 hx
 |cons y as=>
 have hy:=CD (h y (.tail _ (.head _)))
 cases as with
 |nil=>exact .r2 hx hy
 |cons z as=>
 have hz:=CD (h z (.tail _ (.tail _ (.head _))))
 cases as with
 |nil=>exact .r3 hx hy hz
 |cons w as=>exact absurd (Nat.le_of_add_le_add_right (b:=3) (show as.length+1+3≤0+3 from h3)) (Nat.not_succ_le_zero _)
theorem SX {d:Nat}{ns:List Int}{k:Nat}(h:Rw l ns k)(hl:l∈mW):SV d ns=SW ns:=by
 cases h with
 |r1 hx=>exact List.map_inj_left.mp (List.map_inj_left.mp (anQ d) l hl) _ hx
 |r2 hx hy=>exact List.map_inj_left.mp (List.map_inj_left.mp (List.map_inj_left.mp (anR d) l hl) _ hx) _ hy
 |r3 hx hy hz=>exact List.map_inj_left.mp (List.map_inj_left.mp (List.map_inj_left.mp (List.map_inj_left.mp (anS d) l hl) _ hx) _ hy) _ hz
theorem aeX {ns:List Int}{k:Nat}(h:Rw l ns k)(hl:l∈mW)(hn:n∈cI):Es C β q (cK wR 4) (fL a (dO ns) (.int n) m' s' t b s7 s8 s9 s10 s11 s12) (fL a (dO ns) (.int n) m' s' t b s7 s8 (.v (.int (VD n 0 ns))) s10 s11 s12):=fun κ=>by
 cases h with
 |r1 hx=>exact List.map_inj_left.mp (List.map_inj_left.mp (List.map_inj_left.mp r41 l hl) _ hx) n hn
 |r2 hx hy=>exact List.map_inj_left.mp (List.map_inj_left.mp (List.map_inj_left.mp (List.map_inj_left.mp r42 l hl) _ hx) _ hy) n hn
 |r3 hx hy hz=>exact List.map_inj_left.mp (List.map_inj_left.mp (List.map_inj_left.mp (List.map_inj_left.mp (List.map_inj_left.mp r43 l hl) _ hx) _ hy) _ hz) n hn
theorem MQ (h:C 81 [.v t,.v (.str 17),.v (kU n 1),.v (.int side)]=some (kU l 1,.un)):Es C β q (cK wR 5) (fL a r (.int n) m' (.int side) t b s7 s8 (.v (.int l)) s10 s11 s12) (fL a r (.int n) m' (.int side) t b s7 s8 (.v (.int l)) s10 s11 s12):=
 mQ (bQ (o:=.ne) (z:=.bool false) (aS (fun _=>rfl) h) (fun _=>rfl) fun k=>(ZR (k:=fun t=>k (.bool (not t)))).trans (by rw [decide_eq_true rfl,decide_eq_true rfl];rfl)) iD
noncomputable def SY (l:Int):List V→V:=fun xs=>.lst (xs++[.int l])
noncomputable def zN (l:Int)(k:Nat):Bool:=lD (Int.mul l ((-1)^k)) 0
noncomputable def uF (l:Int)(fl:Bool):List (V×V):=[(eJ,cond (lD 0 l) eJ eV),(eV,cond fl eV eJ),(BZ,cond fl eV eJ)]
noncomputable def aeY (s:S):Sr:=match s with
 |.for _ s _=>s
 |_=>.val .bad
theorem uG (x y z:V):(mW.map fun l=>[([x],1),([x,y],2),([x,y,z],3)].map fun p=>kS C glb (cK wR 6) β (fL a (SY l p.1) n' m' s' t b s7 s8 s9 s10 s11 s12) κ q)=mW.map fun l=>[([x],1),([x,y],2),([x,y,z],3)].map fun p=>κ (fL a (SY l p.1) n' m' s' t b s7 s8 s9 (.v (.bool (zN l p.2))) s11 s12):=by kernel_rfl
theorem uH (x y z:V)(K:List V→Fm→Option β):(mW.map fun l=>[true,false].map fun fl=>[[x],[x,y],[x,y,z]].map fun xs=>gJ C glb (aeY (cK wR 7)) β (fL a (SY l xs) n' m' s' t b (.v eJ) (.v eV) s9 (.v (.bool fl)) s11 s12) K)=mW.map fun l=>[true,false].map fun fl=>[[x],[x,y],[x,y,z]].map fun xs=>K ((uF l fl).map fun p=>.tup [p.1,p.2]) (fL a (SY l xs) n' m' s' t b (.v eJ) (.v eV) s9 (.v (.bool fl)) s11 s12):=by kernel_rfl
theorem FC {ns:List Int}{k:Nat}(h:Rw l ns k)(hl:l∈mW):Es C β q (cK wR 6) (fL a (dO ns) n' m' s' t b s7 s8 s9 s10 s11 s12) (fL a (dO ns) n' m' s' t b s7 s8 s9 (.v (.bool (zN l k))) s11 s12):=fun κ=>by
 cases h with
 |r1 _=>exact List.map_inj_left.mp (List.map_inj_left.mp (uG _ .none .none) l hl) _ (.head _)
 |r2 _ _=>exact List.map_inj_left.mp (List.map_inj_left.mp (uG _ _ .none) l hl) _ (.tail _ (.head _))
 |r3 _ _ _=>exact List.map_inj_left.mp (List.map_inj_left.mp (uG _ _ _) l hl) _ (.tail _ (.tail _ (.head _)))
theorem SZ {ns:List Int}{k:Nat}(h:Rw l ns k)(hl:l∈mW)(K:List V→Fm→Option β):gJ C glb (aeY (cK wR 7)) β (fL a (dO ns) n' m' s' t b (.v eJ) (.v eV) s9 (.v (.bool fl)) s11 s12) K=K ((uF l fl).map fun p=>.tup [p.1,p.2]) (fL a (dO ns) n' m' s' t b (.v eJ) (.v eV) s9 (.v (.bool fl)) s11 s12):=by
 have hf:fl∈[true,false]:=by cases fl<;>decide
 cases h with
 |r1 _=>exact List.map_inj_left.mp (List.map_inj_left.mp (List.map_inj_left.mp (uH _ .none .none K) l hl) fl hf) _ (.head _)
 |r2 _ _=>exact List.map_inj_left.mp (List.map_inj_left.mp (List.map_inj_left.mp (uH _ _ .none K) l hl) fl hf) _ (.tail _ (.head _))
 |r3 _ _ _=>exact List.map_inj_left.mp (List.map_inj_left.mp (List.map_inj_left.mp (uH _ _ _ K) l hl) fl hf) _ (.tail _ (.tail _ (.head _)))
theorem zO (c:Bool)(k:Bool→Option β):qN (cond c eJ eV) (cond c eJ eV) k=k true∧qN (cond c eV eJ) (cond c eV eJ) k=k true:=by cases c<;>exact ⟨rfl,rfl⟩
def aeZ (a:aE)(r n m s t b:V)(s7 s8 s9 s10:aE)(_:Nat)(_:Unit)(ρ:Fm):Prop:=∃s11 s12,ρ=fL a r n m s t b s7 s8 s9 s10 s11 s12
theorem MR {u v:V}(h1:C 81 [.v t,.v (.str 17),.v u,.v (.int 0)]=some (v,.un))(h2:C 81 [.v b,.v (.str 17),.v u,.v (.int 0)]=some (nv 0,.un))(hv:∀(β:Type) (k:Bool→Option β),qN v v k=k true):
  mO C β q (nM (cK wR 7)) (fL a r n' m' s' t b s7 s8 s9 s10 (.v u) (.v v)) (fL a r n' m' s' t b s7 s8 s9 s10 (.v u) (.v v)):=
 vY (mQ (JN rfl (bQ (o:=.ne) (z:=.bool false) (aS (fun _=>rfl) h1) (fun _=>rfl) fun k=>hv _ fun t=>k (.bool (not t))) (bQ (o:=.ne) (z:=.bool false) (aS (fun _=>rfl) h2) (fun _=>rfl) fun _=>rfl)) iD)
theorem TA {ns:List Int}{k:Nat}(h:Rw l ns k)(hl:l∈mW)(h1:∀p∈uF l fl,C 81 [.v t,.v (.str 17),.v p.1,.v (.int 0)]=some (p.2,.un))(h2:∀p∈uF l fl,C 81 [.v b,.v (.str 17),.v p.1,.v (.int 0)]=some (nv 0,.un)):
  ∃τ,aeZ a (dO ns) n' m' s' t b (.v eJ) (.v eV) s9 (.v (.bool fl)) 0 () τ∧Es C β q (cK wR 7) (fL a (dO ns) n' m' s' t b (.v eJ) (.v eV) s9 (.v (.bool fl)) s11 s12) τ:=
 gZ (val:=fun p:V×V=>V.tup [p.1,p.2]) (L:=uF l fl) (s:=()) (aeZ a (dO ns) n' m' s' t b (.v eJ) (.v eV) s9 (.v (.bool fl))) (fun _ _=>()) 13 rfl (SZ h hl) (fun _ _ _ ⟨_,_,e⟩=>e▸rfl) ⟨_,_,rfl⟩ (by
  rintro p hp c _ ρ ⟨s11,s12,rfl⟩
  refine (bM _ _ ⟨fun _=>rfl,(bM _ _ rfl),MR (h1 p hp) (h2 p hp) fun β k=>?_⟩)
  simp only [uF,List.mem_cons,List.not_mem_nil,or_false] at hp
  rcases hp with rfl|rfl|rfl
  ·exact (zO _ k).1
  ·exact (zO _ k).2
  ·exact (zO _ k).2)
theorem TB:(([1,2,3]:List Int).map fun m=>ZP.map fun side=>kS C glb (cK wR 8) β (fL a r n' (.int m) (.int side) t b (.v eJ) (.v eV) s9 s10 s11 s12) κ q)=([1,2,3]:List Int).map fun m=>ZP.map fun side=>κ (fL a r n' (.int m) (.int side) t b (.v eJ) (.v eV) s9 s10 s11 (.v (wQ m side))):=by kernel_rfl
theorem ZT (k:Bool→Option β):qN (wQ m side) (wQ m side) k=k true:=by
 unfold wQ
 cases (iW (Int.fmod m 2) 0||iW side 1)<;>cases iW side (-1)<;>rfl
theorem TC (h:C 81 [.v b,.v (.str 17),.v (kU n 1),.v (.int side)]=some (wQ m side,.un)):Es C β q (cK wR 9) (fL a r (.int n) m' (.int side) t b s7 s8 s9 s10 s11 (.v (wQ m side))) (fL a r (.int n) m' (.int side) t b s7 s8 s9 s10 s11 (.v (wQ m side))):=
 mQ (bQ (o:=.ne) (z:=.bool false) (aS (fun _=>rfl) h) (fun _=>rfl) fun k=>ZT fun t=>k (.bool (not t))) iD
end
theorem MS {d:Nat}{ns:List Int}{n side:Int}(hn:n∈cI)(hc:∀c∈ns,gN c)(h4:ns.length≤4):Cn (d+61) 81 [.v (dR 0 (qB ns)),.v (.str 17),.v (kU n 1),.v (.int side)]=some (kU (VD n 0 ns) 1,.un):=by
 have h:=ZQ (d:=d+31) (side:=.int side) (cs:=qB ns) (ZS hn) (cT (dF hc 0)) (cT (dF hc 1)) (cT (dF hc 2)) (cT (dF hc 3)) gR gR gR gR
 rw [show (((ns.getD 0 0:Int):Rat))=iL ns 0 from rfl,show (((ns.getD 1 0:Int):Rat))=iL ns 1 from rfl,show (((ns.getD 2 0:Int):Rat))=iL ns 2 from rfl,show (((ns.getD 3 0:Int):Rat))=iL ns 3 from rfl,MO h4] at h
 exact h
theorem ae0 {d:Nat}{ns:List Int}{l:Int}{k:Nat}(h:Rw l ns k)(hl:l∈mW):∀p∈uF l (zN l k),Cn (d+61) 81 [.v (dR 0 (qB ns)),.v (.str 17),.v p.1,.v (.int 0)]=some (p.2,.un):=by
 refine aF (Prod.mk.inj (SX (d:=d+19) h hl)) fun f1 f2=>?_
 have hlast:ZO ns=l:=by cases h<;>rfl
 have hf:zL ns=zN l k:=by unfold zL zN;refine (Eq.symm hlast)▸?_;cases h<;>rfl
 rw [hlast] at f1
 rw [hf] at f2
 have e80:Cn (d+60) 80 [.v eJ]=some (.str 20,.un):=bZ (d:=d+59) (by kernel_rfl)
 have e81:Cn (d+60) 80 [.v eV]=some (.str 23,.un):=bZ (d:=d+59) (by kernel_rfl)
 have e82:Cn (d+60) 80 [.v BZ]=some (.str 23,.un):=bZ (d:=d+59) (by kernel_rfl)
 intro p hp
 simp only [uF,List.mem_cons,List.not_mem_nil,or_false] at hp
 rcases hp with rfl|rfl|rfl
 ·exact MN (d:=d+59) e80 f1 (by cases lD 0 l;exact .inr ⟨rfl,rfl⟩;exact .inl ⟨rfl,rfl⟩)
 ·exact MN (d:=d+59) e81 f2 (by cases zN l k;exact .inl ⟨rfl,rfl⟩;exact .inr ⟨rfl,rfl⟩)
 ·exact MN (d:=d+59) e82 f2 (by cases zN l k;exact .inl ⟨rfl,rfl⟩;exact .inr ⟨rfl,rfl⟩)
theorem TF {d:Nat}{a:aE}{as:List Int}{l n m side:Int}(has:∀c∈as,gN c)(hl:l∈mW)(h1:1≤as.length)(h3:as.length≤3)(hn:n∈cI)(hm:m∈([1,2,3]:List Int))(hs:side∈ZP){β:Type}{q:V→Fm→Option β}:
  ∃s9 s10 s11 s12,mO (Cn (d+61)) β q VC (fL a (dO (as++[l])) (.int n) (.int m) (.int side) (dR 0 (qB (as++[l]))) (zM n m) .un .un .un .un .un .un) (fL a (dO (as++[l])) (.int n) (.int m) (.int side) (dR 0 (qB (as++[l]))) (zM n m) (.v eJ) (.v eV) s9 s10 s11 s12):=by
 have hr:=aeW (l:=l) has h1 h3
 have hall:∀c∈as++[l],gN c:=fun c hc=>(List.mem_append.mp hc).elim (has c) fun hc=>List.mem_singleton.mp hc▸MP hl
 have h4:(as++[l]).length≤4:=by refine (Eq.symm List.length_append)▸?_;exact Nat.succ_le_succ h3
 obtain ⟨_,hbel⟩:=Prod.mk.inj (List.map_inj_left.mp (List.map_inj_left.mp (CB (d+20)) n hn) m hm)
 obtain ⟨hb,b5⟩:=Prod.mk.inj hbel
 have hb:=List.map_inj_left.mp hb
 generalize as++[l]=ns at hr hall h4 ⊢
 obtain ⟨τ,⟨s11,s12,rfl⟩,hf⟩:=TA (C:=Cn (d+61)) (β:=β) (q:=q) (a:=a) (n':=.int n) (m':=.int m) (s':=.int side) (s9:=.v (.int (VD n 0 ns))) (s11:=.un) (s12:=.un) hr hl (ae0 hr hl) (b:=zM n m) fun p hp=>by
  simp only [uF,List.mem_cons,List.not_mem_nil,or_false] at hp
  rcases hp with rfl|rfl|rfl
  ·exact hb _ (.head _)
  ·exact hb _ (.tail _ (.head _))
  ·exact hb _ (.tail _ (.tail _ (.head _)))
 exact (zZ _ _ _ _ (dJ (fun _=>rfl) (dJ (aeX hr hl hn) (dJ (MQ (MS hn hall h4)) (dJ (FC hr hl) (dJ hf (iE (fun κ=>List.map_inj_left.mp (List.map_inj_left.mp TB m hm) side hs) (TC (List.map_inj_left.mp b5 side hs)))))))))
noncomputable def zP:List S:=cK wR 0::cK wR 1::cK wR 2::VC
theorem iX.le {s:List V}{n m:Nat}(h:iX s n)(l:m≤n):iX s m:=dA h fun a k t e1 e2 e3=>⟨a,k,t,e1,e2,Nat.le_trans (Nat.add_le_add_left l k) e3⟩
section
variable {C:CF}{β:Type}{q:V→Fm→Option β}{ρ ρ1 ρ2:Fm}{e:E}{x v:V}{es:List E}{rs:List Rv}{l:List V}{ls:List aE}{n:Nat}
theorem jM {f:Nat}{xs:List V}{sl:aE}(g:UM C β es ρ l ρ1)(p:aK es=true)(a:ρ.at n=.l xs)(h:C f (.l xs::l.map .v)=some (v,sl))(u:ρ.set n sl=ρ2):Ev C β (.callO f n es) ρ v ρ2:=fun k=>by
 refine (?_:cond (aK es) (bW C glb es β ρ fun x _=>match ρ.at n with
  |.l xs=>(C f (.l xs::x.map .v)).bind fun r=>k r.1 (ρ.set n r.2)
  |.d xs=>(C f (.d xs::x.map .v)).bind fun r=>k r.1 (ρ.set n r.2)
  |_=>none) none=_)
 rw [p,g,a]
 exact bD h (congrArg (k v) u)
def Rvs (C:CF)(β:Type)(rs:List Rv)(ρ:Fm)(l:List aE)(ρ':Fm):Prop:=∀k:List aE→Fm→Option β,rB C glb rs β ρ k=k l ρ'
theorem ae1:Rvs C β [] ρ [] ρ:=fun _=>rfl
theorem MT (h:Ev C β e ρ x ρ1)(g:Rvs C β rs ρ1 ls ρ2):Rvs C β (.e e::rs) ρ (.v x::ls) ρ2:=fun _=>(h _).trans (g _)
theorem CE {xs:List Nat}(h:Rvs C β rs ρ ls ρ1)(p:Nat.beq xs.length ls.length=true)(u:aW xs ls ρ1=ρ2):Es C β q (.unpE xs rs) ρ ρ2:=fun κ=>by
 refine (?_:rB C glb rs β ρ (fun l ρ₁=>cond (Nat.beq xs.length l.length) (κ (aW xs l ρ₁)) none)=_)
 rw [h,p]
 exact congrArg κ u
end
section
variable {β:Type}{q:V→Fm→Option β}{d m:Nat}{s:List V}
noncomputable def fP (a s1 s2 s3 s4:aE):Fm:=[a,s1,s2,s3,s4,.un,.un,.un,.un,.un,.un,.un,.un]
theorem ZU {r:Nat}(h:r<3):(∃l,([V.int 1,.int (Int.neg 1),.int 2])[r]? =some (.int l)∧l∈mW)∧(∃s,([V.int 0,.int 1,.int (Int.neg 1)])[r]? =some (.int s)∧s∈ZP)∧Int.ofNat (r+1)∈([1,2,3]:List Int):=
 by
 rcases (by lia:r=0∨r=1∨r=2) with rfl|rfl|rfl
 ·exact ⟨⟨1,rfl,by decide⟩,⟨0,rfl,by decide⟩,by decide⟩
 ·exact ⟨⟨-1,rfl,by decide⟩,⟨1,rfl,by decide⟩,by decide⟩
 ·exact ⟨⟨2,rfl,by decide⟩,⟨-1,rfl,by decide⟩,by decide⟩
theorem ae2 {r:Nat}:Int.add 1 (.ofNat r)=.ofNat (r+1):=Int.add_comm 1 r
theorem TG {as:List Int}{l:Int}(h:as.length≤3)(k:V→Option β):GE (.lst (as.map V.int)) (.lst [.int l]) k=k (dO (as++[l])):=by
 refine (?_:cond (Nat.ble (Nat.add (as.map V.int).length 1) jA) (k (.lst (List.append (as.map V.int) [.int l]))) none=_)
 rw [cS (show Nat.add (as.map V.int).length 1≤jA from by rw [List.length_map];exact Nat.le_trans (Nat.succ_le_succ h) (by decide)),dO,List.map_append];rfl
theorem ae3 (hs:iX s (m+12)):∃as l s',(∀c∈as,gN c)∧l∈mW∧1≤as.length∧as.length≤3∧iX s' (m+7)∧Es (Cn (d+61)) β q (cK wR 0) (fP (.l s) .un .un .un .un) (fP (.l s') (.v (dO (as++[l]))) .un .un .un):=by
 refine eS fun gG gH=>?_;refine bN (eI (d:=d+59) (m:=3) hs (by decide)) fun r0 s0 h0 p0 hs0=>?_
 refine eM (wN (C:=Cn (d+61)) (m:=m+8) (rest:=[.un,.un,.un,.un,.un,.un,.un,.un,.un,.un,.un,.un,.un]) rfl (fun s n h=>eI (d:=d+59) h (by decide)) (r0+1) 0 s0 .un (hs0.le (by lia))) fun as q1 q2 ai9=>?_;obtain ⟨s1,sl,q3,q4⟩:=ai9
 refine bN (eI (d:=d+59) (m:=3) q3 (by decide)) fun r1 s2 h1 p1 hs2=>?_
 refine aF (ZU h1) fun ajA _=>?_;obtain ⟨l,hl,hl2⟩:=ajA
 refine gH ?_;have hq:as.length≤3:=q1▸h0
 refine ⟨as,l,s2,q2,hl2,q1▸Nat.succ_pos r0,hq,hs2,bU (dM (o:=.add) (x:=.lst (as.map .int)) (y:=.lst [.int l]) (z:=dO (as++[l])) (ρ1:=fP (.l s1) .un .un .un .un) (ρ2:=fP (.l s2) .un .un .un .un) (fun k=>?_)
  (pO (dX (mP (fun _=>rfl) (jM (fun _=>rfl) rfl rfl p1 rfl) fun _=>dY hl (by lia)))) fun k=>TG hq k) rfl⟩
 refine (dI (i:=1) (j:=.ofNat r0) (ρ2:=fP (.l s0) .un .un .un .un) (fun _=>rfl) (jM (fun _=>rfl) rfl rfl p0 rfl) ae2 _).trans ((oG (by lia)).trans (bD q4 ?_))
 rw [pI,cS (by lia)];rfl
theorem ae4 {r:V}(hs:iX s (m+7)):∃n k side s',n∈cI∧k∈([1,2,3]:List Int)∧side∈ZP∧iX s' (m+4)∧Es (Cn (d+61)) β q (cK wR 1) (fP (.l s) (.v r) .un .un .un) (fP (.l s') (.v r) (.v (.int n)) (.v (.int k)) (.v (.int side))):=by
 refine eS fun gG gH=>?_;refine bN (eI (d:=d+59) (m:=5) hs (by decide)) fun r2 s3 h2 p2 hs3=>?_
 refine bN (eI (d:=d+59) (m:=3) hs3 (by decide)) fun r3 s4 h3 p3 hs4=>?_
 refine bN (eI (d:=d+59) (m:=3) hs4 (by decide)) fun r4 s5 h4 p4 hs5=>?_
 refine eT (ZU h4) fun _ ajB _=>?_;obtain ⟨side,hsd,hsd2⟩:=ajB
 refine gH ?_;exact ⟨_,_,side,s5,CD (BY h2),(ZU h3).2.2,hsd2,hs5,CE (MT (kR (i:=.ofNat r2) (j:=2) (jM (ρ2:=fP (.l s3) (.v r) .un .un .un) (fun _=>rfl) rfl rfl p2 rfl) fun _=>rfl) (MT (dI (i:=1) (j:=.ofNat r3) (fun _=>rfl) (jM (ρ2:=fP (.l s4) (.v r) .un .un .un) (fun _=>rfl) rfl rfl p3 rfl) ae2)
  (MT (mP (fun _=>rfl) (jM (ρ2:=fP (.l s5) (.v r) .un .un .un) (fun _=>rfl) rfl rfl p4 rfl) fun _=>dY hsd (by lia)) ae1))) rfl rfl⟩
theorem ae5 {a:aE}{ns:List Int}{n k side:Int}(hns:∀c∈ns,gN c)(h4:ns.length≤4)(hn:n∈cI)(hk:k∈([1,2,3]:List Int)):Es (Cn (d+61)) β q (cK wR 2) (fP a (.v (dO ns)) (.v (.int n)) (.v (.int k)) (.v (.int side))) (fL a (dO ns) (.int n) (.int k) (.int side) (dR 0 (qB ns)) (zM n k) .un .un .un .un .un .un):=
 have b:=(Prod.mk.inj (List.map_inj_left.mp (List.map_inj_left.mp (CB (d+20)) _ hn) _ hk)).1
 CE (MT (aS (fun _=>rfl) (sC (d:=d+19) h4 hns)) (MT (aS (dX (eD (pN (fun _=>rfl) (bR (eD (bR (fun _=>rfl) (eD (bR (fun _=>rfl) (eD (pN (fun _=>rfl) (bR (kR (i:=0) (j:=n) (fun _=>rfl) fun _=>rfl) fun _=>rfl))))))) (eD (pN (fun _=>rfl) (bR (kR (i:=0) (j:=k) (fun _=>rfl) fun _=>rfl) fun _=>rfl))))))) b) ae1)) rfl rfl
theorem TH (hs:iX s (m+12)):∃r n k u t b s9 s10 s11 s12 s',iX s' (m+1)∧
  mO (Cn (d+61)) β q zP [.l s,.un,.un,.un,.un,.un,.un,.un,.un,.un,.un,.un,.un] [.l s',.v r,.v n,.v k,.v u,.v t,.v b,.v eJ,.v eV,s9,s10,s11,s12]:=by
 refine TZ (ae3 (d:=d) (β:=β) (q:=q) hs) fun as l s1 ha hl h1 h3 p1 e0=>?_
 refine mY (ae4 (d:=d) (β:=β) (q:=q) (r:=dO (as++[l])) p1) fun n k side s2 hn hk hs p2 e1=>?_
 refine FZ (TF (d:=d) (β:=β) (q:=q) (a:=.l s2) ha hl h1 h3 hn hk hs) fun s9 s10 s11 s12 e3=>?_
 exact (akL _ _ _ _ _ _ s9 s10 s11 s12 s2 ⟨p2.le (by lia),dJ e0 (dJ e1 (dJ (ae5 (fun c hc=>(List.mem_append.mp hc).elim (ha c) fun hc=>List.mem_singleton.mp hc▸MP hl) (by refine (Eq.symm List.length_append)▸?_;exact Nat.succ_le_succ h3) hn hk) e3))⟩)
end
theorem sE {K:Ct}(h:∀f l,K.C f l=none):cA K:=fun f fn slots r sl fa e=>by rw [h] at e;cases e
theorem uI {K:Ct}(FN:iC K.cx){f:Nat}{fn:Fn}{d:Nat}(RM:dK K.A (d+1)){C:CF}(hb:∀(A:Around) hh hu N io,dK A d→cA (K.at A hh hu C N io)){slots:List aE}{r:V}{sl:aE}{fa:Addr}(hr:hU C glb fn slots=some (r,sl))(hf:nS[f]? =some fn)(hm:K.cx.mg fn.name=some (.ref fa))
  (s:Shared) (out:Addr→Prop) (io:Option Addr) (args:List Value) (pre:cP K s.heap out io) (AR:fJ K.w.params s.heap (go s.heap out) io args slots) (hio:io.isSome=fn.io) (R:Result→Shared→Prop) (hp:∀h' tk v,lP K s.heap out io r sl h' v→R (.ok (.ret v)) {s with heap:=h',toks:=tk}):
  codeAny K.M K.A (.call (.ref fa) ⟨args,[]⟩) R s:=by
 refine aaY (FN f fn hf) fun params body scope fa' FA OK=>?_
 have e:=FA.there
 rw [hm] at e;cases e
 exact EK RM FA OK hr hb pre AR hio hp
theorem zQ {K:Ct}(FN:iC K.cx){d:Nat}(RM:dK K.A (d+1))(hC:K.C=JU):cA K:=fun f fn slots r sl fa hr hf hm=>by
 rw [hC] at hr
 obtain ⟨e,hr⟩:=aA hr
 cases Nat.eq_of_beq_eq_true e
 cases hf
 exact uI FN (f:=0) RM (fun _ _ _ _ _ _=>sE fun _ _=>rfl) hr rfl hm
theorem uJ (d:Nat):∀{K:Ct},iC K.cx→dK K.A (d+1)→K.C=aT d→cA K:=by
 induction d with
 |zero=>exact fun FN RM hC=>sE fun f l=>by refine (Eq.symm hC)▸?_;rfl
 |succ d ih=>
  intro K FN RM hC f fn slots r sl fa hr hf hm
  rw [hC] at hr
  rcases (Nat.zero_add f▸QW.get hf:aY f fn) hr with h|h
  ·exact uI FN RM (fun _ _ _ _ _ RI=>ih FN RI rfl) h hf hm
  ·exact uI FN RM (fun _ _ _ _ _ RI=>zQ FN RI rfl) h hf hm
theorem TI {K:Ct}{ns:dL}{Γ:cZ}{l:List S}{b:List Stmt}(h:Option {st // iP K ns Γ l st})(e:h.map (·.1)=some b):iP K ns Γ l b:=by
 cases h with
 |none=>cases e
 |some p=>cases e;exact p.2
noncomputable def okV (scope:Scope)(vars:List Str)(n:Nat):Bool:=Nat.ble n vars.length && Nat.blt 0 n && decide vars.Nodup && vars.all fun x=>(scope.names.lookup x==some .local||scope.names.lookup x==some .cell) && !(x==("__debug__" :Str)) && !(x==("__classdict__" :Str))
theorem aL {fn:Fn}{params:Arguments}{body:List Stmt}{scope:Scope}(h:okV scope fn.vars fn.arity=true)(hb:∀(vals:List Value) pm cd doc,vals.length=fn.arity→bindArgs (Calls.docDef fn.name params body scope pm cd doc) ⟨vals,[]⟩=pure ((fn.vars.take fn.arity).zip vals))
  (hs:∀(K:Ct) (HC:cA K) (hio:fn.io=false→K.io=none),(yP HC fn.io hio scope.names (fn.vars.map some) fn.body body).map (·.1)=some body):qX fn params body scope:=by
 refine aF (eY h) fun h h4=>?_
 refine aF (eY h) fun h h3=>?_
 refine aF (eY h) fun h1 h2=>?_
 have key:∀x∈fn.vars,(scope.names.lookup x=some .local∨scope.names.lookup x=some .cell)∧(x==("__debug__" :Str))=false∧(x==("__classdict__" :Str))=false:=fun x hx=>by
  refine aF (eY (List.all_eq_true.mp h4 x hx)) fun q q3=>?_
  refine aF (eY q) fun q1 q2=>?_
  exact ⟨((Bool.or_eq_true _ _).mp q1).imp eq_of_beq eq_of_beq,abS q2,abS q3⟩
 exact ⟨Nat.le_of_ble_eq_true h1,Nat.ne_of_gt (Nat.blt_eq.mp h2),⟨of_decide_eq_true h3,fun x hx=>(key x hx).1,fun x hx=>(key x hx).2⟩,hb,fun K HC hio=>TI _ (hs K HC hio)⟩
noncomputable def cO (j:Nat):Vs:=vs (PySem.Challenge.pw_pf0067_01.main.body.getD j (.Pass p0))
noncomputable def iM (j:Nat):Arguments:=((cO j).f.map (·.1)).getD ⟨[],[],none,[],[],none,[]⟩
noncomputable def cJ (j:Nat):Scope:=((cO j).f.map (·.2)).getD ⟨.function,[],false,false,[]⟩
def aQ (j:Nat)(fn:Fn):Prop:=(cO j).f=some (iM j,cJ j)∧qX fn (iM j) (cO j).b (cJ j)
def aM (j:Nat)(fn:Fn)(pm cd doc:Value)(vals:List Value):Prop:=bindArgs (Calls.docDef fn.name (iM j) (cO j).b (cJ j) pm cd doc) ⟨vals,[]⟩=pure ((fn.vars.take fn.arity).zip vals)
theorem dP {l:List Value}{P:List Value→Prop}(h:∀a,P [a])(e:l.length=1):P l:=by refine aR (List.length_eq_one_iff.mp e) fun a ajC=>?_;subst ajC;exact h a
theorem cB {l:List Value}{P:List Value→Prop}(h:∀a b,P [a,b])(e:l.length=2):P l:=by refine bA (PW e) fun a b ajD=>?_;subst ajD;exact h a b
theorem FD {l:List Value}{P:List Value→Prop}(h:∀a b c,P [a,b,c])(e:l.length=3):P l:=by
 cases l with
 |nil=>cases e
 |cons a l=>refine bA (PW (Nat.succ.inj e)) fun b c ajE=>?_;subst ajE;exact h a b c
theorem FE {l:List Value}{P:List Value→Prop}(h:∀a b c d,P [a,b,c,d])(e:l.length=4):P l:=by
 cases l with
 |nil=>cases e
 |cons a l=>exact FD (P:=fun l=>P (a::l)) (fun b c d=>h a b c d) (Nat.succ.inj e)
theorem fo0:aQ 3 f_gcd:=⟨by kernel_rfl,aL (by kernel_rfl) (fun _ pm cd doc=>cB (P:=aM 3 f_gcd pm cd doc) fun a b=>(by kernel_rfl:bindArgs _ _=pure _)) fun K HC hio=>by kernel_rfl⟩
theorem fo1:aQ 10 f_rat:=⟨by kernel_rfl,aL (by kernel_rfl) (fun _ pm cd doc=>cB (P:=aM 10 f_rat pm cd doc) fun a b=>(by kernel_rfl:bindArgs _ _=pure _)) fun K HC hio=>by kernel_rfl⟩
theorem fo2:aQ 11 f_radd:=⟨by kernel_rfl,aL (by kernel_rfl) (fun _ pm cd doc=>cB (P:=aM 11 f_radd pm cd doc) fun a b=>(by kernel_rfl:bindArgs _ _=pure _)) fun K HC hio=>by kernel_rfl⟩
theorem fo3:aQ 12 f_rsub:=⟨by kernel_rfl,aL (by kernel_rfl) (fun _ pm cd doc=>cB (P:=aM 12 f_rsub pm cd doc) fun a b=>(by kernel_rfl:bindArgs _ _=pure _)) fun K HC hio=>by kernel_rfl⟩
theorem fo4:aQ 13 f_rmul:=⟨by kernel_rfl,aL (by kernel_rfl) (fun _ pm cd doc=>cB (P:=aM 13 f_rmul pm cd doc) fun a b=>(by kernel_rfl:bindArgs _ _=pure _)) fun K HC hio=>by kernel_rfl⟩
theorem fo5:aQ 14 f_rdiv:=⟨by kernel_rfl,aL (by kernel_rfl) (fun _ pm cd doc=>cB (P:=aM 14 f_rdiv pm cd doc) fun a b=>(by kernel_rfl:bindArgs _ _=pure _)) fun K HC hio=>by kernel_rfl⟩
theorem fo6:aQ 15 f_rneg:=⟨by kernel_rfl,aL (by kernel_rfl) (fun _ pm cd doc=>dP (P:=aM 15 f_rneg pm cd doc) fun a=>(by kernel_rfl:bindArgs _ _=pure _)) fun K HC hio=>by kernel_rfl⟩
theorem fo7:aQ 16 f_rinv:=⟨by kernel_rfl,aL (by kernel_rfl) (fun _ pm cd doc=>dP (P:=aM 16 f_rinv pm cd doc) fun a=>(by kernel_rfl:bindArgs _ _=pure _)) fun K HC hio=>by kernel_rfl⟩
theorem fo8:aQ 17 f_rpower:=⟨by kernel_rfl,aL (by kernel_rfl) (fun _ pm cd doc=>cB (P:=aM 17 f_rpower pm cd doc) fun a b=>(by kernel_rfl:bindArgs _ _=pure _)) fun K HC hio=>by kernel_rfl⟩
theorem fo9:aQ 18 f_rcompare:=⟨by kernel_rfl,aL (by kernel_rfl) (fun _ pm cd doc=>cB (P:=aM 18 f_rcompare pm cd doc) fun a b=>(by kernel_rfl:bindArgs _ _=pure _)) fun K HC hio=>by kernel_rfl⟩
theorem anV:aQ 22 f_ginsert:=⟨by kernel_rfl,aL (by kernel_rfl) (fun _ pm cd doc=>FD (P:=aM 22 f_ginsert pm cd doc) fun a b c=>(by kernel_rfl:bindArgs _ _=pure _)) fun K HC hio=>by kernel_rfl⟩
theorem anW:aQ 23 f_gadd:=⟨by kernel_rfl,aL (by kernel_rfl) (fun _ pm cd doc=>cB (P:=aM 23 f_gadd pm cd doc) fun a b=>(by kernel_rfl:bindArgs _ _=pure _)) fun K HC hio=>by kernel_rfl⟩
theorem anX:aQ 24 f_poly_sum:=⟨by kernel_rfl,aL (by kernel_rfl) (fun _ pm cd doc=>cB (P:=aM 24 f_poly_sum pm cd doc) fun a b=>(by kernel_rfl:bindArgs _ _=pure _)) fun K HC hio=>by kernel_rfl⟩
theorem anY:aQ 25 f_kind_product:=⟨by kernel_rfl,aL (by kernel_rfl) (fun _ pm cd doc=>cB (P:=aM 25 f_kind_product pm cd doc) fun a b=>(by kernel_rfl:bindArgs _ _=pure _)) fun K HC hio=>by kernel_rfl⟩
theorem anZ:aQ 26 f_gmul:=⟨by kernel_rfl,aL (by kernel_rfl) (fun _ pm cd doc=>cB (P:=aM 26 f_gmul pm cd doc) fun a b=>(by kernel_rfl:bindArgs _ _=pure _)) fun K HC hio=>by kernel_rfl⟩
theorem an0:aQ 27 f_kind_compare:=⟨by kernel_rfl,aL (by kernel_rfl) (fun _ pm cd doc=>cB (P:=aM 27 f_kind_compare pm cd doc) fun a b=>(by kernel_rfl:bindArgs _ _=pure _)) fun K HC hio=>by kernel_rfl⟩
theorem an1:aQ 28 f_fastest:=⟨by kernel_rfl,aL (by kernel_rfl) (fun _ pm cd doc=>dP (P:=aM 28 f_fastest pm cd doc) fun a=>(by kernel_rfl:bindArgs _ _=pure _)) fun K HC hio=>by kernel_rfl⟩
theorem an2:aQ 30 f_gratio_power:=⟨by kernel_rfl,aL (by kernel_rfl) (fun _ pm cd doc=>cB (P:=aM 30 f_gratio_power pm cd doc) fun a b=>(by kernel_rfl:bindArgs _ _=pure _)) fun K HC hio=>by kernel_rfl⟩
theorem an3:aQ 32 f_growth_of:=⟨by kernel_rfl,aL (by kernel_rfl) (fun _ pm cd doc=>cB (P:=aM 32 f_growth_of pm cd doc) fun a b=>(by kernel_rfl:bindArgs _ _=pure _)) fun K HC hio=>by kernel_rfl⟩
theorem an4:aQ 33 f_growth_of_other:=⟨by kernel_rfl,aL (by kernel_rfl) (fun _ pm cd doc=>cB (P:=aM 33 f_growth_of_other pm cd doc) fun a b=>(by kernel_rfl:bindArgs _ _=pure _)) fun K HC hio=>by kernel_rfl⟩
theorem an5:aQ 34 f_far_limit:=⟨by kernel_rfl,aL (by kernel_rfl) (fun _ pm cd doc=>dP (P:=aM 34 f_far_limit pm cd doc) fun a=>(by kernel_rfl:bindArgs _ _=pure _)) fun K HC hio=>by kernel_rfl⟩
theorem an6:aQ 36 f_cut:=⟨by kernel_rfl,aL (by kernel_rfl) (fun _ pm cd doc=>cB (P:=aM 36 f_cut pm cd doc) fun a b=>(by kernel_rfl:bindArgs _ _=pure _)) fun K HC hio=>by kernel_rfl⟩
theorem an7:aQ 37 f_sadd:=⟨by kernel_rfl,aL (by kernel_rfl) (fun _ pm cd doc=>cB (P:=aM 37 f_sadd pm cd doc) fun a b=>(by kernel_rfl:bindArgs _ _=pure _)) fun K HC hio=>by kernel_rfl⟩
theorem an8:aQ 39 f_mixed:=⟨by kernel_rfl,aL (by kernel_rfl) (fun _ pm cd doc=>FD (P:=aM 39 f_mixed pm cd doc) fun a b c=>(by kernel_rfl:bindArgs _ _=pure _)) fun K HC hio=>by kernel_rfl⟩
theorem an9:aQ 40 f_smul:=⟨by kernel_rfl,aL (by kernel_rfl) (fun _ pm cd doc=>cB (P:=aM 40 f_smul pm cd doc) fun a b=>(by kernel_rfl:bindArgs _ _=pure _)) fun K HC hio=>by kernel_rfl⟩
theorem aoA:aQ 41 f_sinverse:=⟨by kernel_rfl,aL (by kernel_rfl) (fun _ pm cd doc=>dP (P:=aM 41 f_sinverse pm cd doc) fun a=>(by kernel_rfl:bindArgs _ _=pure _)) fun K HC hio=>by kernel_rfl⟩
theorem aoB:aQ 44 f_need_begin:=⟨by kernel_rfl,aL (by kernel_rfl) (fun _ pm cd doc=>cB (P:=aM 44 f_need_begin pm cd doc) fun a b=>(by kernel_rfl:bindArgs _ _=pure _)) fun K HC hio=>by kernel_rfl⟩
theorem aoC:aQ 45 f_sexp:=⟨by kernel_rfl,aL (by kernel_rfl) (fun _ pm cd doc=>dP (P:=aM 45 f_sexp pm cd doc) fun a=>(by kernel_rfl:bindArgs _ _=pure _)) fun K HC hio=>by kernel_rfl⟩
theorem aoD:aQ 47 f_ssin_cos:=⟨by kernel_rfl,aL (by kernel_rfl) (fun _ pm cd doc=>dP (P:=aM 47 f_ssin_cos pm cd doc) fun a=>(by kernel_rfl:bindArgs _ _=pure _)) fun K HC hio=>by kernel_rfl⟩
theorem aoE:aQ 48 f_ssin:=⟨by kernel_rfl,aL (by kernel_rfl) (fun _ pm cd doc=>dP (P:=aM 48 f_ssin pm cd doc) fun a=>(by kernel_rfl:bindArgs _ _=pure _)) fun K HC hio=>by kernel_rfl⟩
theorem aoF:aQ 52 f_swhole_power:=⟨by kernel_rfl,aL (by kernel_rfl) (fun _ pm cd doc=>cB (P:=aM 52 f_swhole_power pm cd doc) fun a b=>(by kernel_rfl:bindArgs _ _=pure _)) fun K HC hio=>by kernel_rfl⟩
theorem aoG:aQ 54 f_lplain:=⟨by kernel_rfl,aL (by kernel_rfl) (fun _ pm cd doc=>cB (P:=aM 54 f_lplain pm cd doc) fun a b=>(by kernel_rfl:bindArgs _ _=pure _)) fun K HC hio=>by kernel_rfl⟩
theorem aoH:aQ 55 f_lmoved:=⟨by kernel_rfl,aL (by kernel_rfl) (fun _ pm cd doc=>cB (P:=aM 55 f_lmoved pm cd doc) fun a b=>(by kernel_rfl:bindArgs _ _=pure _)) fun K HC hio=>by kernel_rfl⟩
theorem aoI:aQ 56 f_ladd:=⟨by kernel_rfl,aL (by kernel_rfl) (fun _ pm cd doc=>cB (P:=aM 56 f_ladd pm cd doc) fun a b=>(by kernel_rfl:bindArgs _ _=pure _)) fun K HC hio=>by kernel_rfl⟩
theorem aoJ:aQ 57 f_lmul:=⟨by kernel_rfl,aL (by kernel_rfl) (fun _ pm cd doc=>cB (P:=aM 57 f_lmul pm cd doc) fun a b=>(by kernel_rfl:bindArgs _ _=pure _)) fun K HC hio=>by kernel_rfl⟩
theorem aoK:aQ 58 f_ltrim:=⟨by kernel_rfl,aL (by kernel_rfl) (fun _ pm cd doc=>dP (P:=aM 58 f_ltrim pm cd doc) fun a=>(by kernel_rfl:bindArgs _ _=pure _)) fun K HC hio=>by kernel_rfl⟩
theorem aoL:aQ 59 f_linverse:=⟨by kernel_rfl,aL (by kernel_rfl) (fun _ pm cd doc=>dP (P:=aM 59 f_linverse pm cd doc) fun a=>(by kernel_rfl:bindArgs _ _=pure _)) fun K HC hio=>by kernel_rfl⟩
theorem aoM:aQ 60 f_lpower:=⟨by kernel_rfl,aL (by kernel_rfl) (fun _ pm cd doc=>cB (P:=aM 60 f_lpower pm cd doc) fun a b=>(by kernel_rfl:bindArgs _ _=pure _)) fun K HC hio=>by kernel_rfl⟩
theorem aoN:aQ 61 f_lcut:=⟨by kernel_rfl,aL (by kernel_rfl) (fun _ pm cd doc=>cB (P:=aM 61 f_lcut pm cd doc) fun a b=>(by kernel_rfl:bindArgs _ _=pure _)) fun K HC hio=>by kernel_rfl⟩
theorem aoO:aQ 65 f_from_zero:=⟨by kernel_rfl,aL (by kernel_rfl) (fun _ pm cd doc=>dP (P:=aM 65 f_from_zero pm cd doc) fun a=>(by kernel_rfl:bindArgs _ _=pure _)) fun K HC hio=>by kernel_rfl⟩
theorem aoP:aQ 66 f_of_call:=⟨by kernel_rfl,aL (by kernel_rfl) (fun _ pm cd doc=>cB (P:=aM 66 f_of_call pm cd doc) fun a b=>(by kernel_rfl:bindArgs _ _=pure _)) fun K HC hio=>by kernel_rfl⟩
theorem aoQ:aQ 68 f_of_power:=⟨by kernel_rfl,aL (by kernel_rfl) (fun _ pm cd doc=>FE (P:=aM 68 f_of_power pm cd doc) fun a b c d=>(by kernel_rfl:bindArgs _ _=pure _)) fun K HC hio=>by kernel_rfl⟩
theorem aoR:aQ 69 f_of_term:=⟨by kernel_rfl,aL (by kernel_rfl) (fun _ pm cd doc=>FD (P:=aM 69 f_of_term pm cd doc) fun a b c=>(by kernel_rfl:bindArgs _ _=pure _)) fun K HC hio=>by kernel_rfl⟩
theorem aoS:aQ 70 f_laurent_of:=⟨by kernel_rfl,aL (by kernel_rfl) (fun _ pm cd doc=>FD (P:=aM 70 f_laurent_of pm cd doc) fun a b c=>(by kernel_rfl:bindArgs _ _=pure _)) fun K HC hio=>by kernel_rfl⟩
theorem aoT:aQ 71 f_series_of:=⟨by kernel_rfl,aL (by kernel_rfl) (fun _ pm cd doc=>FE (P:=aM 71 f_series_of pm cd doc) fun a b c d=>(by kernel_rfl:bindArgs _ _=pure _)) fun K HC hio=>by kernel_rfl⟩
theorem aoU:aQ 76 f_from_begin:=⟨by kernel_rfl,aL (by kernel_rfl) (fun _ pm cd doc=>cB (P:=aM 76 f_from_begin pm cd doc) fun a b=>(by kernel_rfl:bindArgs _ _=pure _)) fun K HC hio=>by kernel_rfl⟩
theorem aoV:aQ 77 f_limit_near:=⟨by kernel_rfl,aL (by kernel_rfl) (fun _ pm cd doc=>FE (P:=aM 77 f_limit_near pm cd doc) fun a b c d=>(by kernel_rfl:bindArgs _ _=pure _)) fun K HC hio=>by kernel_rfl⟩
theorem aoW:aQ 78 f_mirrored:=⟨by kernel_rfl,aL (by kernel_rfl) (fun _ pm cd doc=>cB (P:=aM 78 f_mirrored pm cd doc) fun a b=>(by kernel_rfl:bindArgs _ _=pure _)) fun K HC hio=>by kernel_rfl⟩
theorem aoX:aQ 79 f_limit_far:=⟨by kernel_rfl,aL (by kernel_rfl) (fun _ pm cd doc=>FD (P:=aM 79 f_limit_far pm cd doc) fun a b c=>(by kernel_rfl:bindArgs _ _=pure _)) fun K HC hio=>by kernel_rfl⟩
theorem aoY:aQ 80 f_limit:=⟨by kernel_rfl,aL (by kernel_rfl) (fun _ pm cd doc=>FE (P:=aM 80 f_limit pm cd doc) fun a b c d=>(by kernel_rfl:bindArgs _ _=pure _)) fun K HC hio=>by kernel_rfl⟩
theorem aoZ:aQ 85 f_t_num:=⟨by kernel_rfl,aL (by kernel_rfl) (fun _ pm cd doc=>cB (P:=aM 85 f_t_num pm cd doc) fun a b=>(by kernel_rfl:bindArgs _ _=pure _)) fun K HC hio=>by kernel_rfl⟩
theorem ao0:aQ 86 f_t_sym:=⟨by kernel_rfl,aL (by kernel_rfl) (fun _ pm cd doc=>dP (P:=aM 86 f_t_sym pm cd doc) fun a=>(by kernel_rfl:bindArgs _ _=pure _)) fun K HC hio=>by kernel_rfl⟩
theorem ao1:aQ 87 f_t_sum:=⟨by kernel_rfl,aL (by kernel_rfl) (fun _ pm cd doc=>dP (P:=aM 87 f_t_sum pm cd doc) fun a=>(by kernel_rfl:bindArgs _ _=pure _)) fun K HC hio=>by kernel_rfl⟩
theorem ao2:aQ 88 f_t_prod:=⟨by kernel_rfl,aL (by kernel_rfl) (fun _ pm cd doc=>dP (P:=aM 88 f_t_prod pm cd doc) fun a=>(by kernel_rfl:bindArgs _ _=pure _)) fun K HC hio=>by kernel_rfl⟩
theorem ao3:aQ 89 f_t_pow:=⟨by kernel_rfl,aL (by kernel_rfl) (fun _ pm cd doc=>cB (P:=aM 89 f_t_pow pm cd doc) fun a b=>(by kernel_rfl:bindArgs _ _=pure _)) fun K HC hio=>by kernel_rfl⟩
theorem ao4:aQ 90 f_t_minus:=⟨by kernel_rfl,aL (by kernel_rfl) (fun _ pm cd doc=>dP (P:=aM 90 f_t_minus pm cd doc) fun a=>(by kernel_rfl:bindArgs _ _=pure _)) fun K HC hio=>by kernel_rfl⟩
theorem ao5:aQ 91 f_is_num:=⟨by kernel_rfl,aL (by kernel_rfl) (fun _ pm cd doc=>dP (P:=aM 91 f_is_num pm cd doc) fun a=>(by kernel_rfl:bindArgs _ _=pure _)) fun K HC hio=>by kernel_rfl⟩
theorem ao6:aQ 92 f_num_of:=⟨by kernel_rfl,aL (by kernel_rfl) (fun _ pm cd doc=>dP (P:=aM 92 f_num_of pm cd doc) fun a=>(by kernel_rfl:bindArgs _ _=pure _)) fun K HC hio=>by kernel_rfl⟩
theorem ao7:aQ 93 f_is_whole_num:=⟨by kernel_rfl,aL (by kernel_rfl) (fun _ pm cd doc=>dP (P:=aM 93 f_is_whole_num pm cd doc) fun a=>(by kernel_rfl:bindArgs _ _=pure _)) fun K HC hio=>by kernel_rfl⟩
theorem ao8:aQ 96 f_sign_between:=⟨by kernel_rfl,aL (by kernel_rfl) (fun _ pm cd doc=>cB (P:=aM 96 f_sign_between pm cd doc) fun a b=>(by kernel_rfl:bindArgs _ _=pure _)) fun K HC hio=>by kernel_rfl⟩
theorem ao9:aQ 97 f_compare_values:=⟨by kernel_rfl,aL (by kernel_rfl) (fun _ pm cd doc=>cB (P:=aM 97 f_compare_values pm cd doc) fun a b=>(by kernel_rfl:bindArgs _ _=pure _)) fun K HC hio=>by kernel_rfl⟩
theorem apB:aQ 98 f_bare_factors:=⟨by kernel_rfl,aL (by kernel_rfl) (fun _ pm cd doc=>dP (P:=aM 98 f_bare_factors pm cd doc) fun a=>(by kernel_rfl:bindArgs _ _=pure _)) fun K HC hio=>by kernel_rfl⟩
theorem apC:aQ 99 f_front_value:=⟨by kernel_rfl,aL (by kernel_rfl) (fun _ pm cd doc=>dP (P:=aM 99 f_front_value pm cd doc) fun a=>(by kernel_rfl:bindArgs _ _=pure _)) fun K HC hio=>by kernel_rfl⟩
theorem apD:aQ 100 f_base_and_exponent:=⟨by kernel_rfl,aL (by kernel_rfl) (fun _ pm cd doc=>dP (P:=aM 100 f_base_and_exponent pm cd doc) fun a=>(by kernel_rfl:bindArgs _ _=pure _)) fun K HC hio=>by kernel_rfl⟩
theorem apE:aQ 101 f_compare_rows:=⟨by kernel_rfl,aL (by kernel_rfl) (fun _ pm cd doc=>cB (P:=aM 101 f_compare_rows pm cd doc) fun a b=>(by kernel_rfl:bindArgs _ _=pure _)) fun K HC hio=>by kernel_rfl⟩
theorem apF:aQ 102 f_compare_exponents:=⟨by kernel_rfl,aL (by kernel_rfl) (fun _ pm cd doc=>cB (P:=aM 102 f_compare_exponents pm cd doc) fun a b=>(by kernel_rfl:bindArgs _ _=pure _)) fun K HC hio=>by kernel_rfl⟩
theorem apG:aQ 103 f_compare_bases:=⟨by kernel_rfl,aL (by kernel_rfl) (fun _ pm cd doc=>cB (P:=aM 103 f_compare_bases pm cd doc) fun a b=>(by kernel_rfl:bindArgs _ _=pure _)) fun K HC hio=>by kernel_rfl⟩
theorem apH:aQ 104 f_compare_factors:=⟨by kernel_rfl,aL (by kernel_rfl) (fun _ pm cd doc=>cB (P:=aM 104 f_compare_factors pm cd doc) fun a b=>(by kernel_rfl:bindArgs _ _=pure _)) fun K HC hio=>by kernel_rfl⟩
theorem apI:aQ 105 f_compare_terms:=⟨by kernel_rfl,aL (by kernel_rfl) (fun _ pm cd doc=>cB (P:=aM 105 f_compare_terms pm cd doc) fun a b=>(by kernel_rfl:bindArgs _ _=pure _)) fun K HC hio=>by kernel_rfl⟩
theorem apJ:aQ 106 f_merged_terms:=⟨by kernel_rfl,aL (by kernel_rfl) (fun _ pm cd doc=>cB (P:=aM 106 f_merged_terms pm cd doc) fun a b=>(by kernel_rfl:bindArgs _ _=pure _)) fun K HC hio=>by kernel_rfl⟩
theorem apK:aQ 107 f_sort_terms:=⟨by kernel_rfl,aL (by kernel_rfl) (fun _ pm cd doc=>dP (P:=aM 107 f_sort_terms pm cd doc) fun a=>(by kernel_rfl:bindArgs _ _=pure _)) fun K HC hio=>by kernel_rfl⟩
theorem apL:aQ 117 f_number_term:=⟨by kernel_rfl,aL (by kernel_rfl) (fun _ pm cd doc=>dP (P:=aM 117 f_number_term pm cd doc) fun a=>(by kernel_rfl:bindArgs _ _=pure _)) fun K HC hio=>by kernel_rfl⟩
theorem apM:aQ 118 f_number_and_rest:=⟨by kernel_rfl,aL (by kernel_rfl) (fun _ pm cd doc=>dP (P:=aM 118 f_number_and_rest pm cd doc) fun a=>(by kernel_rfl:bindArgs _ _=pure _)) fun K HC hio=>by kernel_rfl⟩
theorem apN:aQ 119 f_with_number:=⟨by kernel_rfl,aL (by kernel_rfl) (fun _ pm cd doc=>cB (P:=aM 119 f_with_number pm cd doc) fun a b=>(by kernel_rfl:bindArgs _ _=pure _)) fun K HC hio=>by kernel_rfl⟩
theorem apO:aQ 120 f_flat_parts:=⟨by kernel_rfl,aL (by kernel_rfl) (fun _ pm cd doc=>cB (P:=aM 120 f_flat_parts pm cd doc) fun a b=>(by kernel_rfl:bindArgs _ _=pure _)) fun K HC hio=>by kernel_rfl⟩
theorem apP:aQ 121 f_gathered_sum:=⟨by kernel_rfl,aL (by kernel_rfl) (fun _ pm cd doc=>dP (P:=aM 121 f_gathered_sum pm cd doc) fun a=>(by kernel_rfl:bindArgs _ _=pure _)) fun K HC hio=>by kernel_rfl⟩
theorem apQ:aQ 122 f_as_power:=⟨by kernel_rfl,aL (by kernel_rfl) (fun _ pm cd doc=>dP (P:=aM 122 f_as_power pm cd doc) fun a=>(by kernel_rfl:bindArgs _ _=pure _)) fun K HC hio=>by kernel_rfl⟩
theorem apR:aQ 123 f_gathered_product:=⟨by kernel_rfl,aL (by kernel_rfl) (fun _ pm cd doc=>dP (P:=aM 123 f_gathered_product pm cd doc) fun a=>(by kernel_rfl:bindArgs _ _=pure _)) fun K HC hio=>by kernel_rfl⟩
theorem apS:aQ 124 f_power_of:=⟨by kernel_rfl,aL (by kernel_rfl) (fun _ pm cd doc=>cB (P:=aM 124 f_power_of pm cd doc) fun a b=>(by kernel_rfl:bindArgs _ _=pure _)) fun K HC hio=>by kernel_rfl⟩
theorem apT:aQ 134 f_simplify:=⟨by kernel_rfl,aL (by kernel_rfl) (fun _ pm cd doc=>dP (P:=aM 134 f_simplify pm cd doc) fun a=>(by kernel_rfl:bindArgs _ _=pure _)) fun K HC hio=>by kernel_rfl⟩
theorem ae6:aQ 138 f_limit_end:=⟨by kernel_rfl,aL (by kernel_rfl) (fun _ pm cd doc=>dP (P:=aM 138 f_limit_end pm cd doc) fun a=>(by kernel_rfl:bindArgs _ _=pure _)) fun K HC hio=>by kernel_rfl⟩
theorem ae7:aQ 139 f_limit_term:=⟨by kernel_rfl,aL (by kernel_rfl) (fun _ pm cd doc=>FE (P:=aM 139 f_limit_term pm cd doc) fun a b c d=>(by kernel_rfl:bindArgs _ _=pure _)) fun K HC hio=>by kernel_rfl⟩
theorem ae8:aQ 140 f_taylor_term:=⟨by kernel_rfl,aL (by kernel_rfl) (fun _ pm cd doc=>FE (P:=aM 140 f_taylor_term pm cd doc) fun a b c d=>(by kernel_rfl:bindArgs _ _=pure _)) fun K HC hio=>by kernel_rfl⟩
theorem apU:aQ 143 f_law_pick:=⟨by kernel_rfl,aL (by kernel_rfl) (fun _ pm cd doc=>cB (P:=aM 143 f_law_pick pm cd doc) fun a b=>(by kernel_rfl:bindArgs _ _=pure _)) fun K HC hio=>by kernel_rfl⟩
theorem apV:aQ 144 f_law_ratio:=⟨by kernel_rfl,aL (by kernel_rfl) (fun _ pm cd doc=>cB (P:=aM 144 f_law_ratio pm cd doc) fun a b=>(by kernel_rfl:bindArgs _ _=pure _)) fun K HC hio=>by kernel_rfl⟩
theorem apW:aQ 145 f_law_plus:=⟨by kernel_rfl,aL (by kernel_rfl) (fun _ pm cd doc=>cB (P:=aM 145 f_law_plus pm cd doc) fun a b=>(by kernel_rfl:bindArgs _ _=pure _)) fun K HC hio=>by kernel_rfl⟩
theorem apX:aQ 146 f_law_raised:=⟨by kernel_rfl,aL (by kernel_rfl) (fun _ pm cd doc=>cB (P:=aM 146 f_law_raised pm cd doc) fun a b=>(by kernel_rfl:bindArgs _ _=pure _)) fun K HC hio=>by kernel_rfl⟩
theorem apY:aQ 147 f_law_term:=⟨by kernel_rfl,aL (by kernel_rfl) (fun _ pm cd doc=>dP (P:=aM 147 f_law_term pm cd doc) fun a=>(by kernel_rfl:bindArgs _ _=pure _)) fun K HC hio=>by kernel_rfl⟩
theorem apZ:aQ 148 f_law_value:=⟨by kernel_rfl,aL (by kernel_rfl) (fun _ pm cd doc=>cB (P:=aM 148 f_law_value pm cd doc) fun a b=>(by kernel_rfl:bindArgs _ _=pure _)) fun K HC hio=>by kernel_rfl⟩
theorem ap0:aQ 149 f_law_choose:=⟨by kernel_rfl,aL (by kernel_rfl) (fun _ pm cd doc=>cB (P:=aM 149 f_law_choose pm cd doc) fun a b=>(by kernel_rfl:bindArgs _ _=pure _)) fun K HC hio=>by kernel_rfl⟩
theorem ap1:aQ 150 f_law_beginning:=⟨by kernel_rfl,aL (by kernel_rfl) (fun _ pm cd doc=>cB (P:=aM 150 f_law_beginning pm cd doc) fun a b=>(by kernel_rfl:bindArgs _ _=pure _)) fun K HC hio=>by kernel_rfl⟩
theorem ae9:aQ 152 f_law_beginning_right:=⟨by kernel_rfl,aL (by kernel_rfl) (fun _ pm cd doc=>dP (P:=aM 152 f_law_beginning_right pm cd doc) fun a=>(by kernel_rfl:bindArgs _ _=pure _)) fun K HC hio=>by kernel_rfl⟩
theorem afA:aQ 153 f_law_limits_right:=⟨by kernel_rfl,aL (by kernel_rfl) (fun _ pm cd doc=>dP (P:=aM 153 f_law_limits_right pm cd doc) fun a=>(by kernel_rfl:bindArgs _ _=pure _)) fun K HC hio=>by kernel_rfl⟩
theorem afB:aQ 154 f_law:=⟨by kernel_rfl,aL (by kernel_rfl) (fun _ pm cd doc=>dP (P:=aM 154 f_law pm cd doc) fun a=>(by kernel_rfl:bindArgs _ _=pure _)) fun K HC hio=>by kernel_rfl⟩
structure CG (base:Heap)(l:List Env)(e:Addr)(C:Value)(da:Option Addr)(fl:Value)(h:Heap):Prop where
 stays:base.StaysIn h
 new:base.get? e=none
 frames:h.FunFrames base l
 tr:∃oe vs T oT ts,h.get? e=some oe∧oe.cls=C∧oe.dict=da∧oe.data=.fields vs∧vs[1]? =some (.ref T)∧base.get? T=none∧T≠e∧h.get? T=some oT∧oT.data=.fields ts∧ts[3]? =some fl
theorem qD (o:Obj)(f:Array Value→Array Value):(o.mapFields f).dict=o.dict:=by
 obtain ⟨c,d,dt,sl⟩:=o
 cases dt<;>rfl
section
variable {M:Model}{A:Around}{E:Value→Shared→Prop}{s:Shared}{base:Heap}{env:Env}{outer:List Env}{L e:Addr}{C:Value}{da:Option Addr}{Q:Unit→Shared→Prop}
theorem sG {oe:Obj}{vs:Array Value}{head:Value}{hadNext:Bool}
  (hfr:A.frames=some (env::outer)) (hl:s.heap.FunFrames base (env::outer)) (hf:env.frame=some L)
  (he:s.heap.get? e=some oe) (hkb:base.StaysIn s.heap) (hen:base.get? e=none) (hd:oe.data=.fields vs) (hsz:1<vs.size)
  (h:∀h',CG base (env::outer) e oe.cls oe.dict (rawInt L) h'→s.heap.UpToSlots h'→Q () {s with heap:=h'}):
  wpAny M A (do let a←frameOf env;let pl←entryPlaceOf L hadNext;let b←EntryCells.newEntry head a .none (rawInt L) .none pl;setField (.ref e) 1 b) Q E s:=by
 have hene:e∉(env::outer).filterMap (·.frame):=fun hm=>by
  refine eS fun gG gH=>?_;obtain ⟨_,o,ho,hnf⟩:=hl.mem hm
  refine gH ?_;rw [he] at ho;cases ho;exact hnf vs hd
 refine wpAny_bind (wpAny_frameOf_fun hfr hl hf fun h₁ hs₁=>?_)
 refine wpAny_bind (wpAny_entryPlaceOf fun pl hpl=>?_)
 unfold EntryCells.newEntry newFields
 refine wpAny_bind (wpAny_newObj_type ?_ (hpl.sizeOk5 _ _ _ _ _))
 have he₁:h₁.get? e=some oe:=(hs₁.2.1 e hene).trans he
 have kb₁:base.StaysIn h₁:=fun b o hbo=>(hs₁.2.1 b fun hm=>by rw [(hl.mem hm).1] at hbo;cases hbo).trans (hkb b o hbo)
 generalize hT:({cls:=.type "traceback",dict:=none,data:=.fields ([head,.ref L,.none,rawInt L,.none]++(if pl.isEmpty then List.replicate 6 Value.none else pl)).toArray}:Obj)=oT
 have hTf:oT.isFreed=false:=by subst hT;rfl
 have hTd:∃ts,oT.data=.fields ts∧ts[3]? =some (rawInt L):=by
  subst hT
  refine ⟨_,rfl,?_⟩
  rcases hpl with rfl|⟨_,_,_,_,_,_,_,rfl⟩<;>simp
 have he₂:=Heap.get?_push_of_some (h:=h₁) oT he₁
 refine wpAny_setField he₂ hd hsz (h _ ?_ fun b o hb hnf=>?_)
 ·have hTe:h₁.objs.size≠e:=Nat.ne_of_gt (Heap.lt_size he₁)
  have hd₃:=Obj.data_mapFields hd (·.setIfInBounds 1 (Value.ref h₁.objs.size))
  have he₃:=Heap.get?_update_self (Obj.mapFields (·.setIfInBounds 1 (Value.ref h₁.objs.size))) he₂ (Obj.isFreed_of_fields hd₃)
  have hT₃:=(Heap.get?_update_other (h₁.push oT) (Obj.mapFields (·.setIfInBounds 1 (Value.ref h₁.objs.size))) (Ne.symm hTe)).trans (Heap.get?_push_size h₁ hTf)
  obtain ⟨ts,ht1,ht2⟩:=hTd
  refine ⟨fun b o hbo=>?_,hen,hl.of_keeps fun b o hb hnf=>?_,(ei5 _ _ h₁.objs.size oT ts ⟨he₃,Obj.cls_mapFields _ _,qD _ _,hd₃,by simp [hsz],kb₁.fresh,hTe,hT₃,ht1,ht2⟩)⟩
  ·rw [Heap.get?_update_other _ _ (fun q=>by rw [←q,hen] at hbo;cases hbo)]
   exact Heap.get?_push_of_some _ (kb₁ b o hbo)
  ·obtain ⟨sl,hs⟩:=hs₁.2.2 b o hb
   refine ⟨{o with slots:=sl},?_,rfl⟩
   rw [Heap.get?_update_other _ _ (fun q=>by rw [←q,he] at hb;cases hb;exact hnf vs hd)]
   exact Heap.get?_push_of_some _ hs
 ·obtain ⟨sl,hs⟩:=hs₁.2.2 b o hb
  refine ⟨sl,?_⟩
  rw [Heap.get?_update_other _ _ (fun q=>by rw [←q,he] at hb;cases hb;exact hnf vs hd)]
  exact Heap.get?_push_of_some _ hs
theorem zR {oe:Obj}{vs:Array Value}(hfr:A.frames=some (env::outer))(hl:s.heap.FunFrames base (env::outer))(hf:env.frame=some L)
  (he:s.heap.get? e=some oe) (hkb:base.StaysIn s.heap) (hen:base.get? e=none) (hd:oe.data=.fields vs) (h1:vs[1]? =some .none)
  (h:∀h',CG base (env::outer) e oe.cls oe.dict (rawInt L) h'→s.heap.UpToSlots h'→Q () {s with heap:=h'}):wpAny M A (noteFrame (.ref e) env) Q E s:=by
 unfold noteFrame
 simp only [hf]
 refine wpAny_bind (wpAny_field he hd h1 ?_)
 rw [if_neg (by decide)]
 exact sG hfr hl hf he hkb hen hd (Array.getElem?_eq_some_iff.mp h1).1 h
theorem sH (hfr:A.frames=some (env::outer))(hf:env.frame=some L)(F:CG base (env::outer) e C da .none s.heap)
  (h:∀h',CG base (env::outer) e C da (rawInt L) h'→s.heap.UpToSlots h'→Q () {s with heap:=h'}):wpAny M A (noteFrame (.ref e) env) Q E s:=by
 refine xH F.tr fun oe vs T oT ts he hcls hda hd h1 hnT hTe hT hdT h3=>?_
 subst hcls hda
 unfold noteFrame
 simp only [hf]
 refine wpAny_bind (wpAny_field he hd h1 ?_)
 refine (Eq.symm (if_pos (show (Value.ref T !=Value.none)=true from by simp)))▸?_
 refine wpAny_bind (wpAny_field hT hdT h3 ?_)
 refine (Eq.symm (if_neg (show ¬((Value.none==rawInt L)=true) from by simp [rawInt])))▸?_
 refine wpAny_bind (wpAny_setField hT hdT (Array.getElem?_eq_some_iff.mp h3).1 ?_)
 have other:∀b,b≠T→(s.heap.update T (Obj.mapFields (·.setIfInBounds 3 Value.none))).get? b=s.heap.get? b:=fun b hb=>Heap.get?_update_other _ _ (Ne.symm hb)
 have noRec:∀b o,s.heap.get? b=some o→(∀vs,o.data≠.fields vs)→b≠T:=fun b o hb hnf q=>by
  rw [q,hT] at hb;cases hb;exact hnf ts hdT
 refine sG hfr (F.frames.of_keeps fun b o hb hnf=>⟨o,(other b (noRec b o hb hnf)).trans hb,rfl⟩) hf ((other e (Ne.symm hTe)).trans he)
  (fun b o hbo=>(other b fun q=>by rw [q,hnT] at hbo;cases hbo).trans (F.stays b o hbo)) F.new hd (Array.getElem?_eq_some_iff.mp h1).1
  fun h' F' U=>h h' F' fun b o hb hnf=>U b o ((other b (noRec b o hb hnf)).trans hb) hnf
theorem gU {l:List Env}{fl:Value}(F:CG base l e C da fl s.heap)(h:∀h',CG base l e C da .none h'→s.heap.UpToSlots h'→Q () {s with heap:=h'}):
  wpAny M A (setFlight (.ref e) none) Q E s:=by
 refine xH F.tr fun oe vs T oT ts he hcls hda hd h1 hnT hTe hT hdT h3=>?_
 have hsz3:3<ts.size:=(Array.getElem?_eq_some_iff.mp h3).1
 have other:∀b,b≠T→(s.heap.update T (Obj.mapFields (·.setIfInBounds 3 ((none:Option Addr).elim Value.none fun f=>rawInt f)))).get? b=s.heap.get? b:=fun b hb=>Heap.get?_update_other _ _ (Ne.symm hb)
 have noRec:∀b o,s.heap.get? b=some o→(∀vs,o.data≠.fields vs)→b≠T:=fun b o hb hnf q=>by
  rw [q,hT] at hb;cases hb;exact hnf ts hdT
 unfold setFlight
 refine wpAny_bind (wpAny_field he hd h1 ?_)
 refine (Eq.symm (if_pos (show (Value.ref T !=Value.none)=true from by simp)))▸?_
 refine wpAny_setField hT hdT hsz3 (h _ ⟨fun b o hbo=>(other b fun q=>by rw [q,hnT] at hbo;cases hbo).trans (F.stays b o hbo),F.new,F.frames.of_keeps fun b o hb hnf=>⟨o,(other b (noRec b o hb hnf)).trans hb,rfl⟩,?_⟩
  fun b o hb hnf=>⟨o.slots,(other b (noRec b o hb hnf)).trans hb⟩)
 exact (ei5 oe vs T _ _ ⟨(other e (Ne.symm hTe)).trans he,hcls,hda,hd,h1,hnT,hTe,Heap.get?_update_self _ hT (Obj.isFreed_of_fields (Obj.data_mapFields hdT _)),Obj.data_mapFields hdT _,by simp [hsz3]⟩)
theorem CG.pop {fl:Value}{h:Heap}(F:CG base (env::outer) e C da fl h):CG base outer e C da fl h:=⟨F.stays,F.new,F.frames.2.2,F.tr⟩
theorem wT {oe:Obj}{vs:Array Value}(hfr:A.frames=some (env::outer))(hl:s.heap.FunFrames base (env::outer))(hf:env.frame=some L)
  (he:s.heap.get? e=some oe) (hkb:base.StaysIn s.heap) (hen:base.get? e=none) (hd:oe.data=.fields vs) (h1:vs[1]? =some .none)
  (h:∀h',CG base outer e oe.cls oe.dict .none h'→s.heap.UpToSlots h'→Q () {s with heap:=h'}):wpAny M A (leaving env (.ref e)) Q E s:=by
 unfold leaving
 refine wpAny_bind (zR hfr hl hf he hkb hen hd h1 fun h' F U=>?_)
 exact gU (s:={s with heap:=h'}) F fun h'' F' U'=>h h'' F'.pop (U.trans U')
theorem zS (hfr:A.frames=some (env::outer))(hf:env.frame=some L)(F:CG base (env::outer) e C da .none s.heap)
  (h:∀h',CG base outer e C da .none h'→s.heap.UpToSlots h'→Q () {s with heap:=h'}):wpAny M A (leaving env (.ref e)) Q E s:=by
 unfold leaving
 refine wpAny_bind (sH hfr hf F fun h' F U=>?_)
 exact gU (s:={s with heap:=h'}) F fun h'' F' U'=>h h'' F'.pop (U.trans U')
end
noncomputable abbrev mE:List Value:=[.type "Exception",.type "BaseException",.type "object"]
structure MU (params:Arguments)(bd:List Stmt)(scope:Scope):Prop where
 bind:∀(a b c:Value) body' pm cd doc,bindArgs (methDef "__init__" "CasFail.__init__" params body' scope pm cd doc) ⟨[a,b,c],[]⟩=pure ((["self", "kind", "text"]:List Str).zip [a,b,c])
 kind:scope.kind=.function
 co:scope.isCoroutine=false
 gen:scope.isGenerator=false
 nc:∀x∈scope.names,(x.2==NameKind.cell)=false
 l1:scope.names.lookup ("self" :Str)=some .local
 l2:scope.names.lookup ("kind" :Str)=some .local
 l3:scope.names.lookup ("text" :Str)=some .local
 l4:scope.names.lookup ("Exception" :Str)=some .globalImplicit
 body:∃p1 p2 p3 p4 k5 p5 p6 p7 p8 p9 p10 p11 p12 p13 p14 p15 p16 p17 p18,(Pos.endLine p2==Pos.line p9)=true∧bd=[.Expr (.Call (.Attribute (.Name "Exception" p1) "__init__" p2) [.Name "self" p3,.BinOp (.BinOp (.Name "kind" p4) .Add (.Constant (.str ": ") k5 p5) p6) .Add (.Name "text" p7) p8] [] p9) p10,
   .Assign [.Attribute (.Name "self" p11) "kind" p12] (.Name "kind" p13) p14,.Assign [.Attribute (.Name "self" p15) "text" p16] (.Name "text" p17) p18]
noncomputable def kF:List Str:=["kind", "text", "__setattr__", "__getattribute__", "__getattr__"]
structure sI (bs:Heap)(mg mb:Str→Option Value)(C N fI:Addr)(mN:Str→Option Value):Prop where
 cls:∃nm q bs' sn sub ab col dd k0 k1 k2 k3 k5,bs.get? C=some (excClassObj nm q C N bs' mE true sn sub ab col dd k0 k1 k2 k3 k5 "Exception.__new__")
 ns:bs.Ns N mN
 init:mN "__init__" =some (.ref fI)
 no:∀n∈kF,mN n=none
 fn:∃o params body scope pm cd doc,bs.get? fI=some o∧o.cls=.type "function" ∧o.data=.func (methDef "__init__" "CasFail.__init__" params body scope pm cd doc)∧bs.CodeRec cd "CasFail.__init__" ∧MU params body scope
 there:mg "CasFail" =some (.ref C)
 excG:mg "Exception" =none
 excB:mb "Exception" =some (.type "Exception")
section
variable {prog:Program}{w:World}{A:Around}{E:Value→Shared→Prop}{s:Shared}{env:Env}
theorem FF {o:Expr}{name:Str}{apos pos:Pos}{args:List Expr}{trees:List (Bool×Sem Value)}{Q:Value→Shared→Prop}
  (hbase:attributeBase o name env (eval o env)=eval o env)
  (hfew:((backTo pos (starEach args env)).all (fun x=> !x.1) && (backToKw pos (keywordEach [] env)).all (fun x=>x.1.isSome)
   && decide (args.length+([]:List Keyword).length+(if ([]:List Keyword).isEmpty then 0 else 1)<30))=true)
  (hline:(apos.endLine==pos.line)=true) (htrees:backTo pos (starEach args env)=trees)
  (h:wpAny (model prog w) A (eval o env) (fun ov s₁=>∀pl,wpAny (model prog w) A (getMethod ov name pl) (fun fx s₂=>wpAny (model prog w) A (callWith pos fx.1 fx.2 trees []) Q E s₂) E s₁) E s):
  wpAny (model prog w) A (eval (.Call (.Attribute o name apos) args [] pos) env) Q E s:=by
 subst htrees
 rw [arm_eval_Call,hbase]
 refine wpAny_bind (wpAny_mono h (fun ov s₁ h₁=>?_) fun _ _ e=>e)
 refine wpAny_bind (wpAny_standAt ?_)
 have hform:methodCallForm (args.length+([]:List Keyword).length) (backTo pos (starEach args env)) (backToKw pos (keywordEach [] env))=true:=hfew
 have hpos:methodCallPos true o env apos pos=pure pos:=by unfold methodCallPos;simp [hline]
 unfold methodCall
 refine (Eq.symm hform)▸?_
 refine wpAny_bind (wpAny_holding (wpAny_mono (h₁ _) (fun fx s₂ h₂=>?_) fun _ _ e=>e))
 exact wpAny_bind (wpAny_of_eq hpos h₂)
theorem ZV (h:Heap):Frag.In [] h:=fun _ _ e=>by cases e
theorem FG {T:String}{name:Str}{v:Value}{pl:Sem Bool}{Q:Value×List Value→Shared→Prop}(ht:typeOf (.type T)=pure (.type "type")) (hs:Manifest.isStub T=false)
  (e:findCls [] (.type T) (.type "type") name=some (.val v)) (hh:handedIn v=true) (h:Q (v,[]) {s with toks:=s.toks+1}):wpAny (model prog w) A (getMethod (.type T) name pl) Q E s:=by
 have X:Frag.In [] s.heap:=ZV _
 have hstub:opaqueClassAbove (.type T)=pure none:=by unfold opaqueClassAbove;dsimp only;refine (Eq.symm hs)▸?_;rfl
 have L0:Looks (model prog w) s.heap (typeOf (.type T)) (.type "type"):=Looks.of_pure ht
 have hg:findIn [] (.type "type") "__getattribute__" =some (some (.builtin "type.__getattribute__")):=type_tga
 unfold getMethod specialOf
 refine wpAny_bind (wpAny_bind (L0.here ((looks_findIn X hg).here ?_)))
 dsimp only
 refine (Eq.symm (if_pos canon_tga))▸?_
 refine wpAny_bind (wpAny_mono (Q:=fun v=>Q (v,[])) (E:=E) ?_ (fun _ _ z=>wpAny_pure z) fun _ _ z=>z)
 have LO:Looks (model prog w) s.heap (opaqueClassAbove (.type T)) none:=Looks.of_pure hstub
 refine cls_open X LO L0 hg (looks_hook X (r:=none) (by rfl)) (by show subIn [] _ _=_;rfl) e
  (wpAny_pure (by show wpAny _ _ (handedOut v) _ _ _;refine (Eq.symm (handedOut_of hh))▸?_;exact wpAny_pure h))
theorem uK:findCls [] (.type "Exception") (.type "type") (Str.ofString "__init__")=some (.val (.builtin "Exception.__init__")):=by kernel_rfl
end
section
open Builtin Builtin.ObjectAttr
section
variable {prog:Program}{w:World}{A:Around}{E:Value→Shared→Prop}{h:Heap}{g:Array GenState}{d:Drawn}{t:Nat}{os:OsState}
variable {nm q:Str}{C N x:Addr}{bs bm:List Value}{sn:List Str}{sub:List Value}{ab:Bool}{col:Option Bool}{dd:Option Addr}{k0 k1 k2 k3 k5:Option Value}{B newId sa owner:String}
 {mN:Str→Option Value} {name:Str} {v:Value} {o:Obj}
abbrev CI (h:Heap) (x:Addr) (o:Obj) (name:Str) (v:Value) (h':Heap):Prop:=
 ∃dx,h.get? dx=none∧h'.get? x=some {o with dict:=some dx}∧dx≠x∧h'.Ns1 dx (fun y=>if y=name then some v else none)∧∀b ob,b≠x→h.get? b=some ob→h'.get? b=some ob
theorem wU {tk:Tok}{Q:Fin→Shared→Prop}(SF:StoreFacts B bm sa owner)
  (hC:h.get? C=some (excClassObj nm q C N bs bm true sn sub ab col dd k0 k1 k2 k3 k5 newId)) (hn:h.Ns N mN) (hna:mN name=none)
  (hB:typeLookup (.type B) name=pure none) (hx:h.get? x=some o) (hc:o.cls=.ref C) (hnc:∀c,o.data≠.cls c) (hdn:o.dict=none)
  (hq:∀h' tk',CI h x o name v h'→Q (.done (.ret .none)) ⟨h',g,d,tk',os⟩):
  wpAny (model prog w) A (Builtin.«object.__setattr__» ⟨[.ref x,.str name tk,v],[]⟩) Q E ⟨h,g,d,t,os⟩:=by
 have hpass:=SF.passes (.ref x)
 unfold Builtin.«object.__setattr__»
 repeat (first|rw [refuse_eq]|(rw [refuseLoop_ref,hpass])|(with_reducible refine wpAny_loadPart_at hx ?_;rw [hc])|with_reducible refine wpAny_mroOf_exc hC ?_|(with_reducible refine wpAny_typeLookup_exc hC hn SF.mro hB ?_;rw [hna])|wp_step)
 rw [hdn,if_neg (by simp [typeHasDict])]
 split
 ·rename_i hcd
  cases hcd
 split
 ·rename_i c hcd
  exact absurd hcd (hnc c)
 ·have hx₁:(h.push {cls:=.type "dict",data:=.dict #[]}).get? x=some o:=Heap.get?_push_of_some _ hx
  have hxs:x≠h.objs.size:=Nat.ne_of_lt (Heap.lt_size hx)
  refine wpAny_bind (wpAny_alloc' ?_)
  refine wpAny_bind (wpAny_update' hx₁ ?_)
  refine wpAny_pure ?_
  generalize hu:((h.push {cls:=.type "dict",data:=.dict #[]}).update x fun o=>{cls:=o.cls,dict:=some h.objs.size,data:=o.data,slots:=o.slots})=hu'
  have hgd:hu'.get? h.objs.size=some {cls:=.type "dict",data:=.dict #[]}:=by
   rw [←hu];exact (Heap.get?_update_ne _ _ _ _ hxs.symm).trans (Heap.get?_push_at rfl rfl)
  have hnd:hu'.Ns h.objs.size (fun _=>none):=(gE _ (#[]) _ ⟨hgd,rfl,fun e he=>absurd he (by simp),fun _=>rfl⟩)
  have hfr:({cls:=o.cls,dict:=some h.objs.size,data:=o.data,slots:=o.slots}:Obj).isFreed=false:=by
   have hf:=(Heap.get?_some_iff.mp hx).2
   obtain ⟨oc,od,odt,osl⟩:=o
   cases odt<;>first|rfl|exact hf
  have hxu:hu'.get? x=some {cls:=o.cls,dict:=some h.objs.size,data:=o.data,slots:=o.slots}:=by
   rw [←hu];exact Heap.get?_update_self _ hx₁ hfr
  have hku:∀b ob,b≠x→h.get? b=some ob→hu'.get? b=some ob:=fun b ob n e=>by
   rw [←hu];exact (Heap.get?_update_ne _ _ _ _ n).trans (Heap.get?_push_of_some _ e)
  show wpAny _ _ (storeInDict h.objs.size (.str name tk) name v) _ _ _
  unfold storeInDict newKeyGuard
  refine wpAny_bind (wpAny_pure (wpAny_bind (wpAny_nsSet1 (Heap.Ns1.of_empty hnd) fun h' hn' hs=>?_)))
  refine dA (hn'.count (Within.cons name v Within.nil)) fun oD esD epD hoD hdD hcD=>?_
  refine wpAny_bind (wpAny_lookBehind hoD (by rw [hdD];exact pastItsLine_dict (Nat.le_trans hcD (by rw [List.length_cons,List.length_nil,sizeLine_eq];lia))) ?_)
  wp_walk
  exact hq h' _ ⟨h.objs.size,Heap.get?_none_of_le (Nat.le_refl _),(hs.2 x hxs).trans hxu,hxs.symm,hn',fun b ob n e=>(hs.2 b (Nat.ne_of_lt (Heap.lt_size e))).trans (hku b ob n e)⟩
theorem mX {Q:Unit→Shared→Prop}(SF:StoreFacts B bm sa owner)
  (hC:h.get? C=some (excClassObj nm q C N bs bm true sn sub ab col dd k0 k1 k2 k3 k5 newId)) (hn:h.Ns N mN) (hns:mN "__setattr__" =none) (hna:mN name=none)
  (hB:typeLookup (.type B) name=pure none) (hx:h.get? x=some o) (hc:o.cls=.ref C) (hnc:∀c,o.data≠.cls c) (hdn:o.dict=none)
  (hq:∀h' tk',CI h x o name v h'→Q () ⟨h',g,d,tk',os⟩):wpAny (model prog w) A (setAttr (.ref x) name v) Q E ⟨h,g,d,t,os⟩:=by
 have f3:=SF.slot.bind (.ref x)
 unfold setAttr callSpecial? specialOf
 repeat (any_goals (first|assumption|(with_reducible refine wpAny_loadPart_at hx ?_;rw [hc])|(with_reducible refine wpAny_typeLookup_exc hC hn SF.mro SF.slot.lookup ?_;rw [hns])|wp_step))
 refine codeAny_call_builtin SF.slot.plain SF.entry (wpAny_check_sa SF hC hx hc (wU SF hC hn hna hB hx hc hnc hdn fun h' tk' I'=>?_))
 repeat (any_goals (first|assumption|wp_step))
 exact hq h' tk' I'
end
end
theorem CJ:typeLookup (.type "Exception") (Str.ofString "kind")=pure none:=by rw [typeLookup_type,builtinLookup_eq_fast];kernel_rfl
theorem TJ:typeLookup (.type "Exception") (Str.ofString "text")=pure none:=by rw [typeLookup_type,builtinLookup_eq_fast];kernel_rfl
theorem ZW:typeOf (.type "Exception")=pure (.type "type"):=by kernel_rfl
theorem MV:Manifest.isStub "Exception" =false:=by decide+kernel
theorem MW:handedIn (.builtin "Exception.__init__")=true:=by decide+kernel
theorem MX {prog:Program}{w:World}{A:Around}{E:Value→Shared→Prop}{s:Shared}{pl:Sem Bool}{Q:Value×List Value→Shared→Prop}(h:Q (.builtin "Exception.__init__",[]) {s with toks:=s.toks+1}):
  wpAny (model prog w) A (getMethod (.type "Exception") "__init__" pl) Q E s:=FG (T:= "Exception") (name:=Str.ofString "__init__") (v:=.builtin "Exception.__init__") ZW MV uK MW h
structure zT (h0 h:Heap)(e C:Addr)(da:Addr)(k x:Value):Prop where
 keep:∀b o,h0.get? b=some o→h.get? b=some o
 new:h0.get? e=none
 obj:∃oe vs,h.get? e=some oe∧oe.cls=.ref C∧oe.dict=some da∧oe.data=.fields vs∧vs[1]? =some .none
 newD:h0.get? da=none
 dict:∃mA,h.Ns da mA∧mA "kind" =some k
section
variable {prog:Program}{w:World}{A:Around}{E:Value→Shared→Prop}{s:Shared}{bs h0:Heap}{mg mb mN:Str→Option Value}{C N fI e:Addr}
theorem MY {nm q:Str}{bs':List Value}{sn:List Str}{sub:List Value}{ab:Bool}{col:Option Bool}{dd:Option Addr}{k0 k1 k2 k3 k5:Option Value}{hdct:Bool}{ob:Obj}{vs:Array Value}{t0:Addr}{rest:List Value}{Q:Value→Shared→Prop}
  (hC:s.heap.get? C=some (excClassObj nm q C N bs' mE hdct sn sub ab col dd k0 k1 k2 k3 k5 "Exception.__new__")) (he:s.heap.get? e=some ob) (hcls:ob.cls=.ref C) (hd:ob.data=.fields vs) (h0:vs[0]? =some (.ref t0))
  (h:Q .none {s with heap:=(s.heap.push {cls:=.type "tuple",data:=.seq rest.toArray}).update e (Obj.mapFields (·.setIfInBounds 0 (.ref s.heap.objs.size)))}) (hrest:rest.length≤sizeLine):
  wpAny (model prog w) A (call (.builtin "Exception.__init__") (.ref e::rest)) Q E s:=by
 obtain ⟨hh,g,d,t,os⟩:=s
 refine wpAny_call (codeAny_call_builtin PySem.F.excBase_Exception.init.plain PySem.F.excBase_Exception.initEntry (wpAny_check_init_sub PySem.F.excBase_Exception hC he hcls ?_))
 unfold Builtin.«BaseException.__init__»
 dsimp only
 rw [if_neg (by simp)]
 unfold newTuple Builtin.BaseException.bexcPut
 have hsz:0<vs.size:=(Array.getElem?_eq_some_iff.mp h0).1
 have he₁:=Heap.get?_push_of_some (h:=hh) {cls:=.type "tuple",data:=.seq rest.toArray} he
 refine wpAny_bind (wpAny_newObj_type (wpAny_bind (wpAny_bind (wpAny_field he₁ hd h0 (wpAny_bind (wpAny_setField he₁ hd hsz ?_))))) (by show rest.toArray.size≤sizeLine;refine (Eq.symm List.size_toArray)▸?_;exact hrest))
 exact wpAny_letGo (wpAny_pure h)
theorem MZ {k x:Str}{t1 t2:Tok}{L:Addr}{h1:Heap}{m:Str→Option Value}{Q:Flow→Shared→Prop}{p1 p2 p3 p4 p5 p6 p7 p8 p9 p10 p11 p12 p13 p14 p15 p16 p17 p18:Pos}{k5:Nat}(CA:sI bs mg mb C N fI mN)(hnsg:bs.Ns mainGlobals mg)(hnsb:bs.Ns builtinsNs mb)
  (hm:Heap.MadeExcOf h0 h1 e (.ref C) [.str k t1,.str x t2]) (hb0:∀a o,bs.get? a=some o→h0.get? a=some o) (hk1:∀a o,h1.get? a=some o→s.heap.get? a=some o) (hL:h1.get? L=none)
  (k1:env.scope.kind=.function) (g1:env.globals=mainGlobals) (g2:env.builtins=builtinsNs) (l1:env.kindOf "self" =some .local) (l2:env.kindOf "kind" =some .local) (l3:env.kindOf "text" =some .local) (l4:env.kindOf "Exception" =some .globalImplicit) (eL:env.locals=L)
  (hns:s.heap.Ns L m) (m1:m "self" =some (.ref e)) (m2:m "kind" =some (.str k t1)) (m3:m "text" =some (.str x t2)) (qL:(p2.endLine==p9.line)=true) (hk:k.length≤1000) (hx:x.length≤1000)
  (hq:∀h' tk da,zT h0 h' e C da (.str k t1) (.str x t2)→Q .next {s with heap:=h',toks:=tk}):
  wpAny (model prog w) A (execs [.Expr (.Call (.Attribute (.Name "Exception" p1) "__init__" p2) [.Name "self" p3,.BinOp (.BinOp (.Name "kind" p4) .Add (.Constant (.str ": ") k5 p5) p6) .Add (.Name "text" p7) p8] [] p9) p10,
   .Assign [.Attribute (.Name "self" p11) "kind" p12] (.Name "kind" p13) p14,.Assign [.Attribute (.Name "self" p15) "text" p16] (.Name "text" p17) p18] env) Q E s:=by
 have hi:interactive env=false:=by unfold interactive;refine (Eq.symm k1)▸?_;rfl
 have hbs:∀a o,bs.get? a=some o→s.heap.get? a=some o:=fun a o g=>hk1 _ _ (hm.keeps a o (hb0 a o g))
 have eld:∀{n:Str} {p:Pos} {v:Value} {A':Around} {E':Value→Shared→Prop} {s':Shared} {m':Str→Option Value} {Q':Value→Shared→Prop},env.kindOf n=some .local→(n==("__debug__" :Str))=false→s'.heap.Ns L m'→m' n=some v→Q' v s'→
   wpAny (model prog w) A' (eval (.Name n p) env) Q' E' s':=fun h1 h2 h3 h4 h5=>wpAny_Name (wpAny_loadName_local k1 h1 (eL.symm▸h3) h4 h5) h2
 refine sO CA.cls fun nm q bs' sn sub ab col dd c0 c1 c2 c3 c5 hC=>?_
 refine eM hm.there fun t0 he htn ht=>?_
 have he':=hk1 _ _ he
 refine wpAny_execs_cons (wpAny_Expr (FF rfl rfl qL rfl ?_) hi rfl)
 refine Calls.Name_function_global k1 l4 (Calls.loadGlobal_builtin (g1.symm▸hnsg.keeps hbs) CA.excG (g2.symm▸hnsb.keeps hbs) CA.excB ?_)
 intro pl
 refine MX ?_
 refine Calls.callWith_builtin rfl (Calls.evalArgs_plain (Calls.spliced_cons (eld l1 (by decide) hns m1 (Calls.spliced_cons (wpAny_BinOp (wpAny_BinOp (eld l2 (by decide) hns m2 (wpAny_Constant_str (SBL.add (fun t' tk _=>?_) ?_)))))))))
 ·refine eld l3 (by decide) hns m3 (SBL.add (fun t'' tk' _=>?_) ?_)
  ·refine Calls.spliced_nil ?_
   refine MY (s:={s with toks:=tk'}) (hbs _ _ hC) he' rfl rfl rfl ?_ (show 1≤sizeLine by decide)
   generalize hh2:(Heap.update (Heap.push s.heap {cls:=.type "tuple",data:=.seq [Value.str (k++Str.ofString ": " ++x) t''].toArray}) e (Obj.mapFields (·.setIfInBounds 0 (.ref s.heap.objs.size))))=h2
   have ne:∀a o,h0.get? a=some o→a≠e:=fun a o g q=>by rw [q,hm.new] at g;cases g
   have keep2:∀b o,b≠e→s.heap.get? b=some o→h2.get? b=some o:=fun b o n g=>by
    refine hh2▸?_;refine (Eq.symm (Heap.get?_update_other _ _ (Ne.symm n)))▸?_;exact Heap.get?_push_of_some _ g
   have he2:=Heap.get?_update_self (Obj.mapFields (·.setIfInBounds 0 (.ref s.heap.objs.size))) (Heap.get?_push_of_some {cls:=.type "tuple",data:=.seq [Value.str (k++Str.ofString ": " ++x) t''].toArray} he') rfl
   rw [hh2] at he2
   have hb2:∀a o,bs.get? a=some o→h2.get? a=some o:=fun a o g=>keep2 a o (ne a o (hb0 a o g)) (hbs a o g)
   have hLe:L≠e:=fun q=>by rw [q,he] at hL;cases hL
   have hns2:h2.Ns L m:=hns.at' fun o g=>keep2 L o hLe g
   have hCe:e≠C:=Ne.symm (ne C _ (hb0 _ _ hC))
   have kp2:∀b o,h0.get? b=some o→h2.get? b=some o:=fun b o g=>keep2 b o (ne b o g) (hk1 _ _ (hm.keeps b o g))
   show wpAny _ _ (execs _ env) _ _ _
   refine wpAny_execs_cons (plainObj_wpAny_Assign_Attribute (eld l2 (by decide) hns2 m2 (eld l1 (by decide) hns2 m1 ?_)))
   refine mX PySem.F.store_Exception (hb2 _ _ hC) (CA.ns.keeps hb2) (CA.no _ (by simp [kF])) (CA.no _ (by simp [kF])) CJ he2 rfl (by intro c q;cases q) rfl (fun h3 tk3 NA=>?_)
   refine TY NA fun da hdn he3 hde hn3 keep3=>?_
   have hb3:∀a o,bs.get? a=some o→h3.get? a=some o:=fun a o g=>keep3 a o (ne a o (hb0 a o g)) (hb2 a o g)
   have hns3:h3.Ns L m:=hns2.at' fun o g=>keep3 L o hLe g
   have kp3:∀b o,h0.get? b=some o→h3.get? b=some o:=fun b o g=>keep3 b o (ne b o g) (kp2 b o g)
   have da0:∀b o,h2.get? b=some o→b≠da:=fun b o g q=>by rw [q,hdn] at g;cases g
   refine wpAny_execs_cons (plainObj_wpAny_Assign_Attribute (eld l3 (by decide) hns3 m3 (eld l1 (by decide) hns3 m1 ?_)))
   refine store_attr PySem.F.store_Exception (hb3 _ _ hC) (CA.ns.keeps hb3) (CA.no _ (by simp [kF])) (CA.no _ (by simp [kF])) TJ hCe ⟨_,he3,rfl,(by intro c q;cases q),.inr ⟨da,rfl,hde,hn3⟩⟩ (fun h4 tk4 I4 hk4 hs4=>?_) (Within.cons _ _ Within.nil) (by decide)
   refine TY (hs4 _ he3) fun o1 f1 f2 f3 f4 f5=>?_
   refine TX I4 fun o2 i1 i2 i3 i4=>?_
   rw [f1] at i1;cases i1
   have f6:=f5 da rfl
   rcases i4 with ⟨i4,_⟩|⟨d,i4,i5,i6⟩
   ·rw [f6] at i4;cases i4
   rw [f6] at i4;cases i4
   refine wpAny_execs_nil (hq h4 tk4 da ⟨fun b o g=>?_,hm.new,(bM o1 _ ⟨f1,f2,f6,f3,rfl⟩),?_,_,i6.ns,rfl⟩)
   rotate_left
   ·cases q:h0.get? da with
    |none=>rfl
    |some o=>exact absurd rfl (da0 _ _ (kp2 _ _ q))
   exact hk4 b o (ne b o g) (fun o₀ dx e0 e1=>by rw [he3] at e0;cases e0;cases e1;exact da0 b o (kp2 b o g)) (kp3 b o g)
  ·rw [Str.length_append,sizeLine_eq]
   have:(Str.ofString ": ").length=2:=by decide
   lia
 ·refine (Eq.symm sizeLine_eq)▸?_
  have:(Str.ofString ": ").length=2:=by decide
  lia
set_option maxHeartbeats 1000000 in
theorem NB {k x:Str}{t1 t2:Tok}{Q:Value→Shared→Prop}(CA:sI bs mg mb C N fI mN)(hnsg:bs.Ns mainGlobals mg)(hnsb:bs.Ns builtinsNs mb)(nolim:bs.NoLimit)(hb0:∀a o,bs.get? a=some o→h0.get? a=some o)
  (hm:Heap.MadeExcOf h0 s.heap e (.ref C) [.str k t1,.str x t2]) (hroom:A.depth<1000) (hk:k.length≤1000) (hx:x.length≤1000)
  (hq:∀h' tk da,zT h0 h' e C da (.str k t1) (.str x t2)→Q .none {s with heap:=h',toks:=tk}):wpAny (model prog w) A (call (.ref fI) [.ref e,.str k t1,.str x t2]) Q E s:=by
 have hbs:∀a o,bs.get? a=some o→s.heap.get? a=some o:=fun a o g=>hm.keeps a o (hb0 a o g)
 refine eS fun gG gH=>?_;refine UA CA.fn fun o params body scope pm cd doc hfI hcls hdat hcd hok=>?_
 obtain ⟨p1,p2,p3,p4,k5,p5,p6,p7,p8,p9,p10,p11,p12,p13,p14,p15,p16,p17,p18,qL,rfl⟩:=hok.body
 refine sO CA.cls fun nm q bs' sn sub ab col dd c0 c1 c2 c3 c5 hC=>?_
 refine gH ?_;refine wpAny_call (codeAny_call_def hroom (hbs _ _ hfI) hdat (nolim.keeps hbs) (hcd.keeps hbs) rfl (.of_eq (hok.bind _ _ _ _ _ _ _)) (fun y hy q=>?_) (fun y hy=>?_) (fun h₁ hns hk₁=>?_) hok.co hok.gen hok.kind)
 ·have:=hok.nc y hy
  rw [q] at this;cases this
 ·rcases List.mem_cons.mp hy with rfl|hy
  ·exact hok.l1
  ·rcases List.mem_cons.mp hy with rfl|hy
   ·exact hok.l2
   ·rcases List.mem_cons.mp hy with rfl|hy
    ·exact hok.l3
    ·exact absurd hy List.not_mem_nil
 ·have F:Fr s.heap s.heap.objs.size h₁ _:=⟨hns,hk₁,Nat.le_refl _⟩
  refine wpAny_mono (Q:=fun f s'=>f=.next∧Q .none s') (E:=fun _ _=>False) (MZ (s:={s with heap:=h₁,toks:=_}) (L:=s.heap.objs.size) (h1:=s.heap) CA hnsg hnsb hm hb0 hk₁ (Heap.get?_none_of_le (Nat.le_refl _)) hok.kind rfl rfl hok.l1 hok.l2 hok.l3 hok.l4 rfl hns ?_ ?_ ?_ qL hk hx ?_) ?_ ?_
  ·rfl
  ·rfl
  ·rfl
  ·exact fun h' tk da CO=>⟨rfl,hq h' tk da CO⟩
  ·rintro f s' ⟨rfl,h⟩;exact h
  ·exact fun _ _ z=>z.elim
end
section
variable {M:Model}{A:Around}{E:Value→Shared→Prop}{env:Env}
variable {nm q:Str}{C N:Addr}{bs bm:List Value}{hdct:Bool}{sn:List Str}{sub:List Value}{ab:Bool}{col:Option Bool}{dd:Option Addr}{k0 k1 k2 k3 k5:Option Value}{newId:String}
theorem zU {s:Shared}{x:Sem Value}{Q:Flow→Shared→Prop}(hbase:bm.contains (.type "BaseException")=true) (hh:A.handled=none)
  (h:wpAny M A x (fun v s₁=>∃e oe vs,v=.ref e∧s₁.heap.get? C=some (excClassObj nm q C N bs bm hdct sn sub ab col dd k0 k1 k2 k3 k5 newId)∧
   s₁.heap.get? e=some oe∧oe.cls=.ref C∧oe.data=.fields vs∧vs[1]? =some .none∧E (.ref e) s₁) E s):
  wpAny M A (raiseStmt env (some x) none) Q E s:=by
 have hcB:(Value.ref C::bm).contains (.type "BaseException")=true:=by rw [List.contains_cons,hbase,Bool.or_true]
 unfold raiseStmt
 refine wpAny_bind (wpAny_mono h (fun v s₁ h₁=>?_) fun _ _ x=>x)
 refine aaX h₁ fun e oe vs ajF hC he hc hd h1 hE=>?_;subst ajF
 obtain ⟨hp,g,d,tk,os⟩:=s₁
 repeat (first|(with_reducible refine wpAny_loadPart_at he ?_;rw [hc])|with_reducible refine wpAny_loadPart_at hC ?_|(with_reducible refine wpAny_isSubtype_exc hC ?_;rw [hcB])|(with_reducible refine wpAny_field he hd h1 ?_)|wp_step)
 exact wpAny_raiseNew_none hh hE
end
section
variable {prog:Program}{w:World}{A:Around}{E:Value→Shared→Prop}{s:Shared}{env:Env}{bs:Heap}{mg mb mN:Str→Option Value}{C N fI:Addr}
theorem FH {k x:Str}{np cpos pos p1 p2:Pos}{k1 k2:Nat}{Q:Flow→Shared→Prop}(CA:sI bs mg mb C N fI mN)(hnsg:bs.Ns mainGlobals mg)(hnsb:bs.Ns builtinsNs mb)(nolim:bs.NoLimit)(hb:∀a o,bs.get? a=some o→s.heap.get? a=some o)
  (hh:A.handled=none) (hd:A.depth+1<1000) (ek:env.scope.kind=.function) (g1:env.globals=mainGlobals) (hg:env.kindOf "CasFail" =some .globalImplicit) (hk:k.length≤1000) (hx:x.length≤1000)
  (h:∀h' tk e da t1 t2,zT s.heap h' e C da (.str k t1) (.str x t2)→E (.ref e) {s with heap:=h',toks:=tk}):
  wpAny (model prog w) A (exec (.Raise (some (.Call (.Name "CasFail" np) [.Constant (.str k) k1 p1,.Constant (.str x) k2 p2] [] cpos)) none pos) env) Q E s:=by
 refine sO CA.cls fun nm q bs' sn sub ab col dd c0 c1 c2 c3 c5 hC=>?_
 refine UA CA.fn fun oI params body scope pm cd doc hfI hcls hdat hcd hok=>?_
 rw [arm_exec_Raise]
 refine wpAny_bind (wpAny_standAt (zU (C:=C) (nm:=nm) (q:=q) (N:=N) (bs:=bs') (bm:=mE) (hdct:=true) (sn:=sn) (sub:=sub) (ab:=ab) (col:=col) (dd:=dd) (k0:=c0) (k1:=c1) (k2:=c2) (k3:=c3) (k5:=c5) (newId:= "Exception.__new__") (by decide) hh
  (wpAny_bind (wpAny_mono (wpAny_Call_ofName ?_) (fun v s₃ h₃=>wpAny_bind (wpAny_standAt (wpAny_pure h₃))) fun _ _ x=>x))))
 refine Calls.Name_function_global ek hg (Calls.loadGlobal_global (g1.symm▸hnsg.keeps hb) CA.there ?_)
 have ha:backTo cpos (starEach [.Constant (.str k) k1 p1,.Constant (.str x) k2 p2] env)=[(false,eval (.Constant (.str k) k1 p1) env),(false,eval (.Constant (.str x) k2 p2) env)]:=rfl
 rw [ha]
 unfold callWith
 refine wpAny_bind (wpAny_holding (wpAny_mono (Calls.evalArgs_plain (Calls.spliced_cons (wpAny_Constant_str (Calls.spliced_cons (wpAny_Constant_str (Calls.spliced_nil ?_)))))) (fun a s₂ h₂=>wpAny_bind (wpAny_standAt h₂)) fun _ _ x=>x))
 dsimp only [List.any_cons,List.any_nil,Bool.or_false,Bool.false_or]
 refine wpAny_bind (wpAny_keeperOf_exc (hb _ _ hC) ?_)
 refine wpAny_bind (wpAny_call_exc_init PySem.F.excBase_Exception (hb _ _ hC) (CA.ns.keeps hb) CA.init (hb _ _ hfI) hcls (fun h' e hm=>?_) (show 2≤sizeLine by decide))
 refine NB (s:={s with heap:=h',toks:=_}) (h0:=s.heap) CA hnsg hnsb nolim hb hm (by show A.depth+1<1000;exact hd) hk hx fun h'' tk da CO=>⟨rfl,?_⟩
 refine wpAny_bind (wpAny_holding (wpAny_point (wpAny_pure ?_)))
 refine iY CO.obj fun oe vs o1 o2 o3 o4 o5=>?_
 exact (gE e oe vs ⟨rfl,CO.keep _ _ (hb _ _ hC),o1,o2,o4,o5,h _ _ _ _ _ _ CO⟩)
end
section
open Builtin Builtin.ObjectAttr
section
variable {prog:Program}{w:World}{A:Around}{E:Value→Shared→Prop}{h:Heap}{g:Array GenState}{d:Drawn}{t:Nat}{os:OsState}
variable {nm q:Str}{C N e da:Addr}{bs:List Value}{sn:List Str}{sub:List Value}{ab:Bool}{col:Option Bool}{dd:Option Addr}{k0 k1 k2 k3 k5:Option Value}{newId:String}
 {mN mA:Str→Option Value} {v:Value} {oe:Obj} {vs:Array Value}
theorem zV {tk:Tok}{Q:Fin→Shared→Prop}(hC:h.get? C=some (excClassObj nm q C N bs mE true sn sub ab col dd k0 k1 k2 k3 k5 newId))(hn:h.Ns N mN)(hna:mN "kind" =none)
  (hx:h.get? e=some oe) (hc:oe.cls=.ref C) (hd:oe.dict=some da) (hdt:oe.data=.fields vs) (hns:h.Ns da mA) (hv:mA "kind" =some v) (hq:Q (.done (.ret v)) ⟨h,g,d,t,os⟩):
  wpAny (model prog w) A (Builtin.«object.__getattribute__» ⟨[.ref e,.str "kind" tk],[]⟩) Q E ⟨h,g,d,t,os⟩:=by
 unfold Builtin.«object.__getattribute__»
 repeat (first|(with_reducible refine wpAny_loadPart_at hx ?_;rw [hc])|(with_reducible refine wpAny_typeLookup_exc hC hn PySem.F.excBase_Exception.mroIs CJ ?_;rw [hna])|wp_step)
 split
 ·rename_i c hcd
  rw [hdt] at hcd;cases hcd
 unfold instanceDict
 repeat (first|(with_reducible refine wpAny_loadPart_at hx ?_;rw [hc])|with_reducible refine wpAny_loadPart_at hC ?_|wp_step)
 rw [hd]
 repeat (first|(with_reducible refine wpAny_nsGet hns ?_;rw [hv])|wp_step)
 exact hq
theorem NC {M:Model}{nameV:Value}{Q:Unit→Shared→Prop}(hC:h.get? C=some (excClassObj nm q C N bs mE true sn sub ab col dd k0 k1 k2 k3 k5 newId))(hx:h.get? e=some oe)(hc:oe.cls=.ref C)(hq:Q () ⟨h,g,d,t,os⟩):
  wpAny M A (checkBuiltinCall "BaseException.__getattribute__" ⟨[.ref e,nameV],[]⟩) Q E ⟨h,g,d,t,os⟩:=by
 have hk:builtinKind "BaseException.__getattribute__" =some .slot:=by decide+kernel
 have hsplit:splitId "BaseException.__getattribute__" =some ("BaseException", "__getattribute__"):=by decide+kernel
 have hcB:(Value.ref C::mE).contains (.type "BaseException")=true:=by rw [List.contains_cons];rfl
 have ha:=PySem.F.args_bexc_ga (.ref e) nameV
 simp only [checkBuiltinCall,hk,hsplit]
 refine wpAny_bind ?_
 unfold isInstance
 repeat (first|(with_reducible refine wpAny_loadPart_at hx ?_;rw [hc])|(with_reducible refine wpAny_isSubtype_exc hC ?_;rw [hcB])|wp_step)
 exact hq
theorem FI {expr:Bool}{Q:Value→Shared→Prop}(hC:h.get? C=some (excClassObj nm q C N bs mE true sn sub ab col dd k0 k1 k2 k3 k5 newId))(hn:h.Ns N mN)(hna:mN "kind" =none) (hng:mN "__getattribute__" =none) (hnh:mN "__getattr__" =none)
  (hx:h.get? e=some oe) (hc:oe.cls=.ref C) (hd:oe.dict=some da) (hdt:oe.data=.fields vs) (hns:h.Ns da mA) (hv:mA "kind" =some v) (hh:handedOut v=pure v) (hq:Q v ⟨h,g,d,t+1,os⟩):
  wpAny (model prog w) A (getAttr (.ref e) "kind" expr) Q E ⟨h,g,d,t,os⟩:=by
 have FB:=PySem.F.attrBase_Exception
 have f3:=FB.ga.bind (.ref e)
 have hx0:(expr && onTheHeap (Value.builtin "BaseException.__getattribute__"))=false:=by cases expr<;>rfl
 have hx2:(Value.builtin "BaseException.__getattribute__" ==Value.builtin "object.__getattribute__")=false:=by decide+kernel
 have hx1:(onTheHeap (Value.ref C) && Value.builtin "BaseException.__getattribute__" ==Value.builtin "object.__getattribute__")=false:=by rw [hx2];rfl
 have hcB:(Value.ref C::mE).contains (.type "BaseException")=true:=by rw [List.contains_cons];rfl
 unfold getAttr getAttrBy
 repeat (any_goals (first|assumption|(with_reducible refine wpAny_loadPart_at hx ?_;rw [hc])|(with_reducible refine wpAny_typeLookup_exc hC hn FB.mro FB.ga.lookup ?_;rw [hng])|wp_step))
 refine wpAny_typeLookup_exc hC hn FB.mro FB.noGetattr ?_
 rw [hnh]
 repeat (any_goals (first|assumption|wp_step))
 refine codeAny_call_builtin FB.ga.plain PySem.F.entry_bexc_ga (NC hC hx hc (zV hC hn hna hx hc hd hdt hns hv ?_))
 show wpAny _ _ (handedOut v) _ _ _
 rw [hh]
 exact wpAny_pure hq
end
end
def CK (L:Addr)(h h':Heap):Prop:=∀b o,b≠L→h.get? b=some o→(∀vs,o.data≠.fields vs)→∃sl,h'.get? b=some {o with slots:=sl}
theorem CK.trans {L:Addr}{a b c:Heap}(x:CK L a b)(y:CK L b c):CK L a c:=fun q o n g f=>by
 refine aR (x q o n g f) fun sl g1=>?_
 refine aR (y q _ n g1 f) fun sl' g2=>?_
 exact ⟨sl',g2⟩
theorem CK.of {L:Addr}{a b:Heap}(x:a.UpToSlots b):CK L a b:=fun q o _ g f=>x q o g f
theorem CK.but {L:Addr}{a b:Heap}(x:Heap.SameBut L a b):CK L a b:=fun q o n g _=>⟨o.slots,(x.2 q n).trans g⟩
theorem CK.ns {L L':Addr}{a b:Heap}{m:Str→Option Value}(x:CK L a b)(n:L'≠L)(hn:a.Ns L' m):b.Ns L' m:=by
 refine dA hn fun o es ep ho hd r=>?_
 obtain ⟨sl,g⟩:=x L' o n ho fun vs q=>by rw [hd] at q;cases q
 exact (gE _ es ep ⟨g,hd,r⟩)
theorem nH {h h' base:Heap}(k:∀b o,h.get? b=some o→(∀vs,o.data≠.fields vs)→∃o',h'.get? b=some o'∧∀vs,o'.data≠.fields vs):∀{l:List Env},h.FunFrames base l→h'.FunFrames base l
 |[],_=>trivial
 |env::l,hl=>by
  refine eS fun gG gH=>?_;refine eT hl fun a ajM r=>?_;obtain ⟨L,o,f1,f2,f3,f4⟩:=ajM
  refine aD (k L o f3 f4) fun o' g1 g2=>?_
  refine gH ?_;exact ⟨a,(bM L o' ⟨f1,f2,g1,g2⟩),nH k r⟩
def ND (v:Value):Prop:=handedOut v=pure v
structure ZX (base:Heap)(l:List Env)(C:Addr)(L:Addr)(k:Value)(e:Value)(h h':Heap):Prop where
 at':∃ea da mA,e=.ref ea∧CG base l ea (.ref C) (some da) .none h'∧h'.Ns da mA∧mA "kind" =some k∧da≠L
 up:CK L h h'
 ns:∃m,h'.Ns L m
section
variable {prog:Program}{w:World}{A:Around}{E:Value→Shared→Prop}{s:Shared}{env:Env}{bs:Heap}{P:Heap→Heap→Value→Prop}{mg mb mN:Str→Option Value}{C N fI L fL:Addr}{outer:List Env}
theorem FJ {m:Str→Option Value}{oL:Obj}{fd:FuncData}{Q:Flow→Shared→Prop}{p1 p2 p3 p4 p5 p6 p7 p8 p9:Pos}(CA:sI bs mg mb C N fI mN)(hnsg:bs.Ns mainGlobals mg)
  (hfr:A.frames=some (env::outer)) (hh:A.handled=none) (ek:env.scope.kind=.function) (g1:env.globals=mainGlobals) (l1:env.kindOf "work" =some .local) (l2:env.kindOf "refusal" =some .local) (l3:env.kindOf "CasFail" =some .globalImplicit)
  (eL:env.locals=L) (eF:env.frame=some L) (hns:s.heap.Ns L m) (hm:m "work" =some (.ref fL)) (hfL:s.heap.get? fL=some oL) (hfd:oL.data=.func fd)
  (hcall:wpAny (model prog w) A (call (.ref fL) []) (fun _ _=>False) (fun e s'=>∃base hm k,P base hm k∧ND k∧(∀a o,bs.get? a=some o→base.get? a=some o)∧ZX base (env::outer) C L k e hm s'.heap∧∃h' tk,s'={s with heap:=h',toks:=tk}) s)
  (hq:∀base hm k h' tk,P base hm k→base.StaysIn h'→h'.FunFrames base outer→CK L hm h'→Q (.ret k) {s with heap:=h',toks:=tk}):
  wpAny (model prog w) A (execs [.Try [.Return (some (.Call (.Name "work" p1) [] [] p2)) p3] [.ExceptHandler (some (.Name "CasFail" p4)) (some "refusal") [.Return (some (.Attribute (.Name "refusal" p5) "kind" p6)) p7] p8] [] [] p9] env) Q E s:=by
 refine sO CA.cls fun nm q bs' sn sub ab col dd c0 c1 c2 c3 c5 hC=>?_
 refine wpAny_execs_cons (wpAny_Try_except (wpAny_execs_cons (wpAny_Return_some (Call_Name0 (wpAny_Name (wpAny_loadName_local ek l1 (eL.symm▸hns) hm (Calls.callWith_function (PyProof.Rows.evalArgs_none ⟨⟨hfL,hfd⟩,?_⟩))) (by decide))))))
 refine wpAny_mono hcall (fun _ _ z=>z.elim) fun e s1 h1=>?_
 refine eS fun gG gH=>?_;refine oP h1 fun base hm0 k hP hk hbb LA ajG=>?_;obtain ⟨h1',tk1,rfl⟩:=ajG
 refine oP LA.at' fun ea da mA ajH F1 hda hkd hdL=>?_;subst ajH
 refine aR LA.ns fun m1 hns1=>?_
 refine gH ?_;refine sH hfr eF F1 fun h2 F2 U2=>?_
 refine gU (s:={s with heap:=h2,toks:=tk1}) F2 fun h3 F3 U3=>?_
 have hns3:h3.Ns L m1:=U3.ns (U2.ns hns1)
 have hda3:h3.Ns da mA:=U3.ns (U2.ns hda)
 have U13:CK L hm0 h3:=(LA.up.trans (.of U2)).trans (.of U3)
 have hmark:(A.mark (some (.ref ea))).frames=some (env::outer):=hfr
 refine wpAny_handleBy_cons (codeAny_handlers_test ?_) (by intro q;cases q)
 refine Calls.Name_function_global ek l3 (Calls.loadGlobal_global (s:={s with heap:=h3,toks:=tk1}) (g1.symm▸(hnsg.keeps hbb).keeps F3.stays) CA.there ?_)
 refine xH F3.tr fun oe vs T oT ts he hcls hdict hdat h11 hnT hTe hT hdT h33=>?_
 refine wpAny_excMatches_sub_self (F3.stays _ _ (hbb _ _ hC)) he hcls (by decide) (codeAny_handlers_suite_as ?_)
 refine gU (s:={s with heap:=h3,toks:=tk1}) F3 fun h4 F4 U4=>?_
 have hns4:h4.Ns L m1:=U4.ns hns3
 have hda4:h4.Ns da mA:=U4.ns hda3
 refine wpAny_storeName_local (s:={s with heap:=h4,toks:=tk1}) l2 (eL.symm▸hns4) (fun h5 hn5 hs5=>?_) (by refine (Eq.symm ek)▸?_;rfl)
 rw [eL] at hn5 hs5
 refine aa2 F4.tr fun oe4 vs4 T4 oT4 ts4 he4 hcls4 hdict4 hdat4 _=>?_
 have heL:ea≠L:=fun q=>by
  refine dA hns4 fun oL' es ep g gd _=>?_
  rw [←q,he4] at g;cases g;rw [hdat4] at gd;cases gd
 have hLb:base.get? L=none:=by
  refine eT F4.frames fun _ ajI _=>?_;obtain ⟨L',o',f1,f2,_⟩:=ajI
  rw [eF] at f1;cases f1;exact f2
 have st5:base.StaysIn h5:=fun b o g=>(hs5.2 b fun q=>by rw [q,hLb] at g;cases g).trans (F4.stays b o g)
 refine wpAny_execs_cons (wpAny_Return_some (Attribute_name (wpAny_Name (wpAny_loadName_local (s:={s with heap:=h5,toks:=tk1+1}) ek l2 (eL.symm▸hn5) (if_pos rfl:_=some (Value.ref ea)) ?_) (by decide))))
 refine FI (st5 _ _ (hbb _ _ hC)) ((CA.ns.keeps hbb).keeps st5) (CA.no _ (by simp [kF])) (CA.no _ (by simp [kF])) (CA.no _ (by simp [kF])) ((hs5.2 _ heL).trans he4) hcls4 hdict4 hdat4 (hda4.sameBut hs5 hdL) hkd hk ?_
 refine wpAny_nameGoes (s:={s with heap:=h5,toks:=tk1+1+1}) l2 (eL.symm▸hn5) (by refine (Eq.symm ek)▸?_;rfl) fun h6 m6 hn6 hs6=>?_
 rw [eL] at hs6
 refine hq base hm0 k h6 _ hP (fun b o g=>(hs6.2 b fun q=>by rw [q,hLb] at g;cases g).trans (st5 b o g)) ?_ (((U13.trans (.of U4)).trans (.but hs5)).trans (.but hs6))
 refine nH (fun b o g f=>?_) F4.frames.2.2
 by_cases q:b=L
 ·refine dA ((eL▸hn6:h6.Ns L m6)) fun o6 es ep g6 gd _=>?_
  exact ⟨o6,q▸g6,fun vs e=>by rw [gd] at e;cases e⟩
 ·exact ⟨o,(hs6.2 b q).trans ((hs5.2 b q).trans g),f⟩
end
noncomputable def T0:Tb:=⟨fun _=>False,fun _=>True,fun _ _ _ h=>h⟩
def CL (v:Value):Prop:=∃t,v=.str "domain" t
structure sJ (base:Heap)(outer:List Env)(C:Addr)(e:Value)(s s':Shared):Prop where
 at':∃ea da mA,e=.ref ea∧CG base outer ea (.ref C) (some da) .none s'.heap∧s'.heap.Ns da mA∧(∃k,mA "kind" =some k∧CL k)∧s.heap.get? da=none
 up:s.heap.UpToSlots s'.heap
 same:Up s s'
def dS (K:Ct)(C:Addr)(f:Nat)(xs:List V):Prop:=∀fn fa,nS[f]? =some fn→K.cx.mg fn.name=some (.ref fa)→∀(s:Shared) (out:Addr→Prop) (args:List Value) (base:Heap) (outer:List Env),
 cP K s.heap out none→bJ K.w.params (go s.heap out) args xs→K.A.frames=some outer→base.StaysIn s.heap→s.heap.FunFrames base outer→
 codeAny K.M K.A (.call (.ref fa) ⟨args,[]⟩) (fun r s'=>∃e,r=.error e∧sJ base outer C e s s') s
inductive nQ (K:Ct)(ns:dL)(Γ:cZ):List S→List Stmt→Prop
 |nil:nQ K ns Γ [] []
 |cons {st p r t}:fN K ns Γ st p→nQ K ns Γ r t→nQ K ns Γ (st::r) (p::t)
section
variable {K:Ct}{ns:dL}{Γ:cZ}
theorem qE {pre ppre}(h:nQ K ns Γ pre ppre){B:cU K ns Γ}{β:Type}{z:β}{r:List Stmt}{Q:Flow→Shared→Prop}{E:Value→Shared→Prop}{k:Fm→Option β}:∀{σ:Pt},dZ B.toBs σ→aU K.C Internal.glb pre β σ.ρ k (fun _ _=>none)=some z→
  (∀σ',fK B.toBs [] σ σ'→k σ'.ρ=some z→wpAny K.M K.A (execs r B.env) Q E σ'.s)→wpAny K.M K.A (execs (ppre++r) B.env) Q E σ.s:=by
 induction h with
 |nil=>exact fun {σ} S hev hn=>hn σ (.here S) hev
 | @cons st p t t' h1 _ ih=>exact fun {σ} S hev hn=>wpAny_execs_cons (h1 B σ β _ _ z _ E S hev (fun σ1 g1 k1=>ih g1.S k1 fun σ2 g2=>hn σ2 (g1.trans g2)) fun _ _ _ _ _ e=>nomatch e)
theorem nJ {C:Addr}{base:Heap}{outer:List Env}{env:Env}{L:Addr}{e:Value}{s0 s1 s2:Shared}{R:Result→Shared→Prop}{M:Model}{A:Around}(hfr:A.frames=some outer)(hf:env.frame=some L)(k0:∀a o,s0.heap.get? a=some o→s1.heap.get? a=some o)(e0:Up s0 s1)
  (F:sJ base (env::outer) C e s1 s2) (h:∀s',sJ base outer C e s0 s'→R (.error e) s'):wpAny M (A.deeper env) (leaving env e) (fun _ s'=>R (.error e) s') (fun e' s'=>R (.error e') s') s2:=by
 refine oP F.at' fun ea da mA ajJ F1 n1 kd nd=>?_;subst ajJ
 refine zS (A:=A.deeper env) (Around.frames_deeper hfr) hf F1 fun h' F2 U=>h _ ⟨(gE ea da mA ⟨rfl,F2,U.ns n1,kd,?_⟩),((Heap.UpToSlots.of_keeps k0).trans F.up).trans U,(e0.trans F.same).trans (show Up s2 {s2 with heap:=h'} from rfl)⟩
 cases q:s0.heap.get? da with
 |none=>rfl
 |some o=>rw [k0 _ _ q] at nd;cases nd
theorem sK {base:Heap}{outer:List Env}{env:Env}{L:Addr}{h0 h1:Heap}{m:Str→Option Value}(hf:env.frame=some L)(hk:env.scope.kind=.function)(hL:h0.get? L=none)(st:base.StaysIn h0)(fr:h0.FunFrames base outer)(k:∀a o,h0.get? a=some o→h1.get? a=some o)(hn:h1.Ns L m):
  h1.FunFrames base (env::outer):=by
 refine ⟨by refine (Eq.symm hk)▸?_;decide,⟨L,?_⟩,fr.of_keeps fun b o g _=>⟨o,k b o g,rfl⟩⟩
 refine dA hn fun o es ep g gd _=>?_
 refine ⟨o,hf,?_,g,fun vs q=>by rw [gd] at q;cases q⟩
 cases q:base.get? L with
 |none=>rfl
 |some o'=>rw [st _ _ q] at hL;cases hL
theorem gQ.old {fn:Fn}{scope:Scope}{K':Ct}{B:cU K' scope.names (fn.vars.map some)}{σ σ':Pt}{s:Shared}{out:Addr→Prop}{slots:List aE}{env:Env}(EN:gQ B σ s fn out none slots env)(hN:K'.N=s.heap.objs.size)(hT:K'.T=T0)(G:fK B.toBs [] σ σ'):iG s.heap σ'.s.heap:=fun a o g=>
 G.w.k a o (EN.keep a o g) (by show ¬K'.T.tb a;refine (Eq.symm hT)▸?_;exact id) (fun ⟨p,hp,e⟩=>absurd (Heap.lt_size g) (Nat.not_lt.mpr (e▸hN▸(B.pl p hp).1))) fun m=>by
  rw [EN.own] at m
  exact (List.mem_cons.mp m).elim (fun e=>nomatch e) fun m=>(nomatch (List.mem_replicate.mp m).2)
theorem gQ.tab {fn:Fn}{scope:Scope}{K':Ct}{B:cU K' scope.names (fn.vars.map some)}{σ σ':Pt}{s:Shared}{out:Addr→Prop}{io:Option Addr}{slots:List aE}{env:Env}(EN:gQ B σ s fn out io slots env)(hl:∃x∈fn.vars,scope.names.lookup x=some .local)(S:dZ B.toBs σ'):∃m,σ'.s.heap.Ns s.heap.objs.size m:=by
 refine aD hl fun x hx hl=>?_
 exact S.plLive (p:=.loc s.heap.objs.size x) (by refine (Eq.symm EN.pls)▸?_;refine (show lS scope s.heap.objs.size x=.loc s.heap.objs.size x from if_pos hl)▸?_;exact List.mem_map_of_mem hx)
end
structure VE (w:World)(cx:Cx w)(C:Addr):Prop where
 at':∃N fI mN,sI cx.bs cx.mg cx.mb C N fI mN
def CM (rb:List Stmt):Prop:=∃n1 k1 q1 x k2 q2 c p,rb=[.Raise (some (.Call (.Name "CasFail" n1) [.Constant (.str "domain") k1 q1,.Constant (.str x) k2 q2] [] c)) none p]∧x.length≤1000
structure uL (fn:Fn)(body:List Stmt)(scope:Scope)(pre:List S)(t:E):Prop where
 hb:∃ppre pt rb ip prest,body=ppre++.If pt rb [] ip::prest∧CM rb∧∀(K:Ct),cA K→K.io=none→nQ K scope.names (fn.vars.map some) pre ppre∧gW K scope.names (fn.vars.map some) t pt
 cas:scope.names.lookup ("CasFail" :Str)=some .globalImplicit
 loc:∃x∈fn.vars,scope.names.lookup x=some .local
theorem wV {K:Ct}{C:Addr}(CA:VE K.w K.cx C)(hT:K.T=T0)(FN:iC K.cx){d:Nat}(RM:dK K.A (d+2)){f:Nat}{fn:Fn}(hf:nS[f]? =some fn){params:Arguments}{body:List Stmt}{scope:Scope}{fa:Addr}(FA:iS K.cx.bs K.cx.mg fn.name params body scope fa)(OK:qX fn params body scope)
  {pre:List S} {t:E} (RA:uL fn body scope pre t) {xs:List V} (hlen:xs.length=fn.arity)
  (ev:aU (aT d) glb pre Bool (xs.map .v++List.replicate (fn.vars.length - fn.arity) .un) (fun ρ=>kE (aT d) glb t Bool ρ fun v _=>dG v some) (fun _ _=>none)=some true):dS K C f xs:=by
 intro fn' fa' hf' hm' s out args base outer OF AR hfr st fr
 rw [hf] at hf';cases hf'
 have e:=FA.there
 rw [hm'] at e;cases e
 refine eS fun gG gH=>?_;refine jX CA.at' fun N fI mN CA=>?_
 refine aa0 RA.hb fun ppre pt rb ip prest ajK ajL hsim=>?_;subst ajK;obtain ⟨n1,k1,q1,x,k2,q2,c,p,rfl,hx⟩:=ajL
 refine gH ?_;refine gA (io:=none) (slots:=xs.map .v) RM.dl FA OK (by rw [List.length_map];exact hlen) OF ⟨xs,rfl,AR⟩ (aT d) (fun env=>⟨RM.handled,(RM.deeper env).hu⟩) fun cd _ B σ EN=>?_
 have RI:=RM.deeper (envOfC fn.name scope s.heap.objs.size fa cd)
 refine aF (hsim (K.at (K.A.deeper (envOfC fn.name scope s.heap.objs.size fa cd)) RM.handled RI.hu (aT d) s.heap.objs.size none) (uJ d FN RI rfl) rfl) fun hA ht=>?_
 refine qE hA EN.S (by rw [EN.ρ];exact ev) fun σ1 G1 k1=>?_
 refine wpAny_execs_cons (wpAny_If (ht B σ1 Bool _ true _ _ (lO (f:=fun b _=>some b)) G1.S k1 fun σ2 b g2 k2=>?_))
 cases (Option.some.inj k2:b=true)
 have G2:=G1.trans g2.os
 have k02:=EN.old rfl hT G2
 have eenv:=EN.env
 refine wpAny_execs_cons (FH (s:=σ2.s) CA K.cx.nsg K.cx.nsb K.cx.nolim (fun a o g=>(G2.S.base g).1) RI.handled (Nat.lt_of_le_of_lt (Nat.le_trans (Nat.add_le_add_left (Nat.le_add_left 2 _) _) RM.depth) (by decide)) B.ok.kind B.ok.gl (by refine (Eq.symm eenv)▸?_;exact RA.cas) (by decide) hx fun h4 tk4 e da t1 t2 CO=>?_)
 refine iY CO.obj fun oe vs o1 o2 o3 o4 o5=>?_
 refine aR (EN.tab RA.loc G2.S) fun m3 hn3=>?_
 have k04:∀a o,s.heap.get? a=some o→h4.get? a=some o:=fun a o g=>CO.keep _ _ (k02 a o g)
 have hkk:(envOfC fn.name scope s.heap.objs.size fa cd).scope.kind=.function:=by refine eenv▸?_;exact B.ok.kind
 refine (Eq.symm eenv)▸?_
 refine wT (base:=base) (s:={σ2.s with heap:=h4,toks:=tk4}) (Around.frames_deeper hfr) (sK rfl hkk (Heap.get?_none_of_le (Nat.le_refl _)) st fr k04 (hn3.keeps CO.keep)) rfl o1 (fun a o g=>k04 a o (st a o g)) ?_ o4 o5 fun h5 F5 U5=>?_
 ·cases q:base.get? e with
  |none=>rfl
  |some o=>have:=k02 _ _ (st _ _ q);rw [CO.new] at this;cases this
 ·refine aD CO.dict fun mA d1 d2=>?_
  refine ⟨_,rfl,(gE e da mA ⟨rfl,by rw [o2,o3] at F5;exact F5,U5.ns d1,⟨_,d2,t1,rfl⟩,?_⟩),(Heap.UpToSlots.of_keeps k04).trans U5,(EN.up.trans G2.u).trans (show Up σ2.s {σ2.s with heap:=h5,toks:=tk4} from rfl)⟩
  cases q:s.heap.get? da with
  |none=>rfl
  |some o=>have:=k02 _ _ q;rw [CO.newD] at this;cases this
structure VF (fn fng fnl:Fn)(body:List Stmt)(scope:Scope):Prop where
 hb:∃y n0 n1 n2 p1 p2 p3 p4 p5 p6 p7 p8 p9 z prest,body=.Assign [.Name y p1] (.Call (.Name fng.name p2) [.Name n0 p3,.Name n1 p4,.Call (.Name fnl.name p5) [.Name n2 p6] [] p7,z] [] p8) p9::prest∧fn.vars[0]? =some n0∧fn.vars[1]? =some n1∧fn.vars[2]? =some n2
 ig:gK scope.names fng.name=true
 il:gK scope.names fnl.name=true
 loc:∃x∈fn.vars,scope.names.lookup x=some .local
theorem NE {K:Ct}{ns:dL}{Γ:cZ}{B:cU K ns Γ}{fng fnl:Fn}{σ:Pt}{y n0 n1 n2:Str}{p1 p2 p3 p4 p5 p6 p7 p8 p9:Pos}{z:Expr}(ig:gK ns fng.name=true)(il:gK ns fnl.name=true)(v0:Γ[0]? =some (some n0))(v1:Γ[1]? =some (some n1))(v2:Γ[2]? =some (some n2))(S:dZ B.toBs σ){x0 x1 x2:V}{xr:Fm}(hρ:σ.ρ=.v x0::.v x1::.v x2::xr)
  {fg fl:Nat} (hg:nS[fg]? =some fng) (hl:nS[fl]? =some fnl) {Q:Flow→Shared→Prop} {E:Value→Shared→Prop} {F:Value→Pt→Shared→Prop} (hE:∀e σ' s',F e σ' s'→E e s')
  (h:∀fla σ' w,K.cx.mg fnl.name=some (.ref fla)→cV B.toBs true σ σ'→Vl B.toBs σ' w x2→codeAny K.M K.A (.call (.ref fla) ⟨[w],[]⟩) (fun r s'=>∃e,r=.error e∧F e σ' s') σ'.s):
  wpAny K.M K.A (exec (.Assign [.Name y p1] (.Call (.Name fng.name p2) [.Name n0 p3,.Name n1 p4,.Call (.Name fnl.name p5) [.Name n2 p6] [] p7,z] [] p8) p9) B.env) Q E σ.s:=by
 refine eS fun gG gH=>?_;obtain ⟨fga,og,fdg,hmg,hbg,hdg⟩:=K.cx.fns fg fng hg
 obtain ⟨fla,ol,fdl,hml,hbl,hdl⟩:=K.cx.fns fl fnl hl
 obtain ⟨ig1,ig2⟩:=dE ig
 obtain ⟨il1,il2⟩:=dE il
 refine gH ?_;rw [exec_Assign_Name _ _ _ _ _ (dW rfl)]
 refine wpAny_bind (wpAny_standAt (wpAny_bind (Call_Name rfl (cY K.cx B.ok (B.glb _ ig1) (B.nsg S) hmg ?_ ig2))))
 refine Calls.callWith_function (o:=og) (fd:=fdg) (Calls.evalArgs_plain (Calls.spliced_cons (nT v0 B σ V (fun v _=>some v) x0 _ _ S (by rw [hρ];rfl) fun σ1 w1 u1 g1 r1 _=>Calls.spliced_cons ?_)))
 refine nT v1 B σ1 V (fun v _=>some v) x1 _ _ g1.S (by rw [g1.p rfl,hρ];rfl) fun σ2 w2 u2 g2 r2 _=>Calls.spliced_cons ?_
 have g02:=g1.trans g2
 refine Call_Name rfl (cY K.cx B.ok (B.glb _ il1) (B.nsg g2.S) hml ?_ il2)
 refine Calls.callWith_function (o:=ol) (fd:=fdl) (Calls.evalArgs_plain (Calls.spliced_cons (nT v2 B σ2 V (fun v _=>some v) x2 _ _ g2.S (by rw [g02.p rfl,hρ];rfl) fun σ3 w3 u3 g3 r3 k3=>Calls.spliced_nil ⟨⟨(g3.S.base hbl).1,hdl⟩,wpAny_call ?_⟩)))
 refine codeAny_mono (h fla σ3 w3 hml (g02.trans g3) ((Option.some.inj k3:u3=x2)▸r3)) fun r s' hr=>?_
 obtain ⟨e,rfl,q⟩:=hr
 exact hE e σ3 s' q
theorem FK {K:Ct}{C:Addr}(hT:K.T=T0){d:Nat}(RM:dK K.A (d+2)){f:Nat}{fn:Fn}(hf:nS[f]? =some fn){params:Arguments}{body:List Stmt}{scope:Scope}{fa:Addr}(FA:iS K.cx.bs K.cx.mg fn.name params body scope fa)(OK:qX fn params body scope)
  {fg fl:Nat} {fng fnl:Fn} (hg:nS[fg]? =some fng) (hl:nS[fl]? =some fnl) (AA:VF fn fng fnl body scope) {x0 x1 x2:V} {xr:List V} (hlen:(x0::x1::x2::xr).length=fn.arity)
  (hraise:∀env hh hu N,dS (K.at (K.A.deeper env) hh hu (aT d) N none) C fl [x2]):dS K C f (x0::x1::x2::xr):=by
 refine eS fun gG gH=>?_;obtain ⟨y,n0,n1,n2,p1,p2,p3,p4,p5,p6,p7,p8,p9,z,prest,rfl,v0,v1,v2⟩:=AA.hb
 refine gH ?_;intro fn' fa' hf' hm' s out args base outer OF AR hfr st fr
 cases hf.symm.trans hf'
 cases FA.there.symm.trans hm'
 have hΓ:∀{i:Nat} {n:Str},fn.vars[i]? =some n→(fn.vars.map some)[i]? =some (some n):=fun e=>by refine (Eq.symm List.getElem?_map)▸?_;refine (Eq.symm e)▸?_;rfl
 refine gA (io:=none) (slots:=(x0::x1::x2::xr).map .v) RM.dl FA OK (by rw [List.length_map];exact hlen) OF ⟨_,rfl,AR⟩ (aT d) (fun env=>⟨RM.handled,(RM.deeper env).hu⟩) fun cd _ B σ EN=>?_
 have eenv:=EN.env
 have k0:=fun σ' (G:cV B.toBs true σ σ')=>EN.old rfl hT G.os
 refine wpAny_execs_cons (NE (F:=fun e σ' s'=>cV B.toBs true σ σ'∧sJ base (envOfC fn.name scope s.heap.objs.size fa cd::outer) C e σ'.s s') AA.ig AA.il (hΓ v0) (hΓ v1) (hΓ v2) EN.S EN.ρ hg hl (fun e σ' s' q=>?_) fun fla σ' w hm G r=>?_)
 ·refine (Eq.symm eenv)▸?_
  exact nJ (R:=fun r s'=>∃e,r=.error e∧sJ base outer C e s s') (s0:=s) (s1:=σ'.s) hfr rfl (k0 σ' q.1) (EN.up.trans q.1.os.u) q.2 fun s' F'=>⟨_,rfl,F'⟩
 ·refine aR (EN.tab AA.loc G.S) fun m3 hn3=>?_
  refine codeAny_mono (hraise _ _ _ _ fnl fla hl hm σ'.s (Xs B.toBs σ'.own) [w] base (envOfC fn.name scope s.heap.objs.size fa cd::outer) (pH G.S nofun) (bJ.cons r bJ.nil) (Around.frames_deeper hfr) (fun a o g=>k0 σ' G a o (st a o g)) (sK rfl (by refine eenv▸?_;exact B.ok.kind) (Heap.get?_none_of_le (Nat.le_refl _)) st fr (k0 σ' G) hn3)) fun r s' ⟨e,he,F⟩=>⟨e,he,G,F⟩
def wW (g:Gh)(P:Addr)(pos:Pos)(qual:Str):Prop:=∃ps,g P (tabObj ps)∧(ps= #[]∨∃c' oc vs t,ps= #[rawInt pos.line,rawInt pos.col,.ref c']∧g c' oc∧oc.data=.fields vs∧vs[1]? =some (.str qual t))
structure eW where
 P:Addr
 pos:Pos
 qual:Str
noncomputable def nR (ts:List eW):Tb:=⟨fun a=>∃t∈ts,t.P=a,fun g=>∀t∈ts,wW g t.P t.pos t.qual,fun g g' h i t ht=>
 aD (i t ht) fun ps h1 h2=>
 ⟨ps,h _ _ h1,h2.imp id fun ⟨c',oc,vs,u,e,k,r⟩=>⟨c',oc,vs,u,e,h _ _ k,r⟩⟩⟩
section
variable {K:Ct}{ns:dL}{Γ:cZ}{B:cU K ns Γ}{Q:Value→Shared→Prop}{E:Value→Shared→Prop}
theorem NF {ts:List eW}(hT:K.T=nR ts){t:eW}(ht:t∈ts)(hts:∀u∈ts,u.P=t.P→u=t){c:Addr}(hc:B.env.code=.ref c)(CH:CodeHd K.cx.bs c t.P)(hgP:mainGlobals≠t.P)(hB:K.cx.bs.BuiltinsAt K.cx.mg t.P)
  {body:Expr} {scope:Scope} (hq:t.qual=B.env.qual++ "<lambda>") (F:bY ns Γ scope []) {σ:Pt} (S:dZ B.toBs σ)
  (h:∀f o cl cv ctv h' tk,(∀x,(x,NameKind.free)∈scope.names→cl.lookup x=B.env.cells.lookup x)→h'.get? f=some o→o={cls:=.type "function",data:=.func (kla_fn "<lambda>" t.qual ⟨[],[],none,[],[],none,[]⟩ body scope cl ((K.cx.mg "__name__").getD .none) cv ctv)}→h'.CodeRec cv t.qual→
   dZ B.toBs (σ.to h' tk)→¬Xs B.toBs σ.own f→σ.s.heap.get? f=none→(∀a o,σ.s.heap.get? a=some o→a≠t.P→h'.get? a=some o)→Q (.ref f) (σ.to h' tk).s):
  wpAny K.M K.A (eval (.Lambda ⟨[],[],none,[],[],none,[]⟩ body scope t.pos) B.env) Q E σ.s:=by
 refine aD (jZ (scope:=scope) (env:=B.env) fun x hx=>B.cellAt (F.free x hx).1 (F.free x hx).2) fun cl hcl hcl2=>?_
 have hti:(nR ts).inv (gt B.toBs σ.own σ.s.heap):=by have:=S.ti;rw [show K.kx.T=nR ts from hT] at this;exact this
 refine aD (hti t ht) fun ps hP hps=>?_
 have tbP:K.T.tb t.P:=by refine (Eq.symm hT)▸?_;exact ⟨t,ht,rfl⟩
 have base:∀a o,K.cx.bs.get? a=some o→σ.s.heap.get? a=some o:=fun a o e=>(S.base e).1
 have hns:σ.s.heap.Ns mainGlobals K.cx.mg:=K.cx.nsg.keeps base
 have hbA:σ.s.heap.BuiltinsAt K.cx.mg t.P:=by
  refine FY hB fun bm ob b1 b2 b3 b4 b5 b6=>?_
  exact (bM bm ob ⟨b1,b2,b3,b4,base _ _ b5,b6⟩)
 have CH':=CH.keeps base
 have ge:B.env.globals=mainGlobals:=B.ok.gl
 refine kla_eval (by rfl) ?_
 refine hq▸?_
 have grow:∀h',(∀a o,σ.s.heap.get? a=some o→a≠t.P→h'.get? a=some o)→wW (gt B.toBs σ.own h') t.P t.pos t.qual→dZ B.toBs (σ.to h' σ.s.toks):=by
  intro h' hk ht'
  refine S.chg (D:=fun b=>b=t.P) hk (fun b e=>e▸⟨(B.tbN _ tbP).2.1,(B.tbN _ tbP).2.2,.inl (B.tbN _ tbP).1⟩) ?_
  have:∀u∈ts,wW (gt B.toBs σ.own h') u.P u.pos u.qual:=by
   intro u hu
   by_cases e:u.P=t.P
   ·refine (Eq.symm (hts u hu e))▸?_;exact ht'
   ·refine aD (hti u hu) fun qs h1 h2=>?_
    have cr:∀a o,a≠t.P→gt B.toBs σ.own σ.s.heap a o→gt B.toBs σ.own h' a o:=fun a o n g=>⟨hk a o g.1 n,g.2⟩
    refine ⟨qs,cr _ _ e h1,h2.imp id ?_⟩
    rintro ⟨c',oc,vs,v,e1,k,r1,r2⟩
    refine (zZ c' oc vs v ⟨e1,cr _ _ (fun q=>?_) k,r1,r2⟩)
    rw [q] at k
    have:=hP.1.symm.trans k.1
    cases this
    cases r1
    rcases hps with rfl|⟨_,_,_,_,rfl,_⟩<;>cases r2
  refine (Eq.symm (show K.kx.T=nR ts from hT))▸?_
  exact this
 rcases hps with rfl|⟨c',oc,vs,u,rfl,hoc,hod,hvs⟩
 ·refine kla_makeFunction (mg:=K.cx.mg) hcl ge hns hc CH' hP.1 trivial rfl hgP hbA fun c' ctv h' tk hx hge hlt hrec htab=>?_
  have hk:∀a o,σ.s.heap.get? a=some o→a≠t.P→(h'.push (kla_obj "<lambda>" t.qual ⟨[],[],none,[],[],none,[]⟩ body scope cl ((K.cx.mg "__name__").getD .none) c' ctv)).get? a=some o:=fun a o g n=>Heap.get?_push_of_some _ (hx a o n g)
  refine uZ hrec fun c2 oc vs v e2 hoc hod hvs=>?_
  cases e2
  refine h _ _ cl (.ref c') ctv _ tk hcl2 (Heap.get?_push_size _ rfl) rfl (zZ c' oc vs v ⟨rfl,Heap.get?_push_of_some _ hoc,hod,hvs⟩) (grow _ hk ⟨_,⟨Heap.get?_push_of_some _ htab,.inl tbP⟩,.inr (zZ c' oc vs v ⟨rfl,⟨Heap.get?_push_of_some _ hoc,.inr (S.fresh (.le hge)).1⟩,hod,hvs⟩)⟩) (S.fresh (.le (Nat.le_trans hge (Nat.le_of_lt hlt)))).1 (Heap.get?_none_of_le (Nat.le_trans hge (Nat.le_of_lt hlt))) hk
 ·refine kla_makeFunctionHit (mg:=K.cx.mg) hcl ge hns hc CH' hP.1 trivial (cv:=.ref c') (by
   show (if ((t.pos.line:Int)==t.pos.line && (t.pos.col:Int)==t.pos.col)=true then some (Value.ref c') else _)=_
   rw [if_pos (by simp)]) hbA fun ctv h' tk hk0 hsz=>?_
  have hk:∀a o,σ.s.heap.get? a=some o→a≠t.P→(h'.push {cls:=.type "function",data:=.func (kla_fn "<lambda>" t.qual ⟨[],[],none,[],[],none,[]⟩ body scope cl ((K.cx.mg "__name__").getD .none) (.ref c') ctv)}).get? a=some o:=fun a o g _=>Heap.get?_push_of_some _ (hk0 a o g)
  exact h _ _ cl (.ref c') ctv _ tk hcl2 (Heap.get?_push_size _ rfl) rfl (zZ c' oc vs u ⟨rfl,Heap.get?_push_of_some _ (hk0 _ _ hoc.1),hod,hvs⟩) (grow _ hk ⟨_,⟨Heap.get?_push_of_some _ (hk0 _ _ hP.1),.inl tbP⟩,.inr (zZ c' oc vs u ⟨rfl,⟨Heap.get?_push_of_some _ (hk0 _ _ hoc.1),hoc.2⟩,hod,hvs⟩)⟩) (S.fresh (.le hsz)).1 (Heap.get?_none_of_le hsz) hk
end
section
variable {K:Ct}{ns:dL}{Γ:cZ}{B:cU K ns Γ}{scope:Scope}{cl:List (Str×Addr)}
theorem NG {qual:Str}{L f:Addr}{cv:Value}(F:bY ns Γ scope [])(hcl:∀x,(x,NameKind.free)∈scope.names→cl.lookup x=B.env.cells.lookup x):fA (envX qual scope L f cv cl) (cN Γ scope []) B.pls where
 kind:=F.kind
 gl:=rfl
 bl:=rfl
 names:=fun i x h=>by
  rcases iJ h with ⟨hi,h1,hf⟩|⟨_,h1⟩
  ·have hm:=mem_of_lookup hf
   rcases B.ok.names i _ h1 with ⟨hk,_⟩|⟨_,c,hc,hp⟩
   ·rw [B.cel _ (F.free _ hm).1] at hk;cases hk
   ·exact .inr ⟨.inr hf,c,(hcl _ hm).trans hc,hp⟩
  ·cases h1
 dbg:=fun i x h=>(iJ h).elim (fun q=>B.ok.dbg i _ q.2.1) fun q=>(nomatch q.2)
 len:=by unfold cN;rw [List.length_append,List.length_map,B.ok.len];rfl
noncomputable abbrev Ct.t0 (K:Ct):Ct:={K with T:=T0}
theorem ZY {σ:Pt}(S:dZ B.toBs σ):cP K.t0 σ.s.heap (Xs B.toBs σ.own) none:=
 have P:=pH S (io:=none) nofun
 ⟨P.base,P.live,fun a x=>x.elim,trivial,P.sys,nofun⟩
def zW (h:Heap)(l:List Env):Prop:=∀env∈l,env.scope.kind≠.module∧∃L m,env.frame=some L∧h.Ns L m
theorem zW.funs {h:Heap}{as:List Addr}{l:List Env}:zW h l→(∀env∈l,∀a,env.frame=some a→a∈as)→h.FunFrames (hideAll h as) l:=by
 induction l with
 |nil=>exact fun _ _=>trivial
 |cons env l ih=>
  intro k m
  refine eS fun gG gH=>?_;obtain ⟨k1,L,_,f,o,es,ep,g,gd,_⟩:=k env (.head _)
  refine gH ?_;exact ⟨k1,(bM L o ⟨f,hideAll_none _ (m env (.head _) L f),g,fun vs q=>by rw [gd] at q;cases q⟩),ih (fun e h=>k e (.tail _ h)) fun e h=>m e (.tail _ h)⟩
theorem zX {C:Addr}(FN:iC K.cx){d:Nat}{A:Around}(RM:dK A (d+2)){f:Addr}{qual:Str}{cv ctv pm:Value}{p1 p2:Pos}{vs:List Expr}{fi:Nat}{fn:Fn}{σ:Pt}
  (ho:σ.s.heap.get? f=some {cls:=.type "function",data:=.func (kla_fn "<lambda>" qual ⟨[],[],none,[],[],none,[]⟩ (.Call (.Name fn.name p1) vs [] p2) scope cl pm cv ctv)}) (hrec:σ.s.heap.CodeRec cv qual) (hco:scope.isCoroutine=false) (hgen:scope.isGenerator=false)
  (F:bY ns Γ scope []) (hcl:∀x,(x,NameKind.free)∈scope.names→cl.lookup x=B.env.cells.lookup x) (hf:nS[fi]? =some fn) (isg:gK scope.names fn.name=true) {e1:Internal.E} {er:List Internal.E} (hes:∀K':Ct,cA K'→K'.io=K.io→mM K' scope.names (cN Γ scope []) (e1::er) vs)
  (S:dZ B.toBs σ) {xs:List V} {ρ':Fm} (hev:bW (aT d) Internal.glb (e1::er) _ σ.ρ (fun l ρ=>some (l,ρ))=some (xs,ρ'))
  (hraise:∀env hh hu,dS (K.at (A.deeper env) hh hu (aT d) K.N K.io).t0 C fi xs) {outer:List Env} (hfr:A.frames=some outer) {as:List Addr} (has:∀env∈outer,∀a,env.frame=some a→a∈as) (hff:∀σ',cV B.toBs false σ σ'→zW σ'.s.heap outer)
  {R:Result→Shared→Prop} (h:∀e s' σ',cV B.toBs false σ σ'→σ'.ρ=ρ'→(∃m,σ'.s.heap.Ns σ.s.heap.objs.size m)→sJ (hideAll σ'.s.heap (σ.s.heap.objs.size::as)) outer C e σ'.s s'→R (.error e) s'):codeAny K.M A (.call (.ref f) ⟨[],[]⟩) R σ.s:=by
 refine kla_callFunE RM.dl ho rfl hco hgen rfl hrec ?_
 have base:∀a o,K.cx.bs.get? a=some o→σ.s.heap.get? a=some o:=fun a o e=>(S.base e).1
 have hb:bindArgs (kla_fn "<lambda>" qual ⟨[],[],none,[],[],none,[]⟩ (.Call (.Name fn.name p1) vs [] p2) scope cl pm cv ctv) ⟨[],[]⟩=pure []:=rfl
 refine (Eq.symm hb)▸?_
 refine wpAny_pure (wpAny_newFunctionEnv F.ncell (fun _ hx=>absurd hx List.not_mem_nil) (fun h₁ hns hsb=>⟨((K.cx.nolim).keeps base).fresh _ hsb,?_⟩) F.kind)
 have hk₁:∀b o,σ.s.heap.get? b=some o→h₁.get? b=some o:=fun b o e=>hsb.extBut b o (Nat.ne_of_lt (Heap.lt_size e)) (Heap.get?_push_of_some _ e)
 refine kla_codeExpr ?_
 have RI:=RM.deeper (envX qual scope σ.s.heap.objs.size f cv cl)
 let K2:=K.at (A.deeper (envX qual scope σ.s.heap.objs.size f cv cl)) RI.handled RI.hu (aT d) K.N K.io
 have hC2:cA K2:=uJ d (K:=K2) FN RI rfl
 let BL:cU K2 scope.names (cN Γ scope []):=⟨B.toBs,envX qual scope σ.s.heap.objs.size f cv cl,NG F hcl,fun _ h=>h,fun x h=>absurd rfl (F.ncell _ (mem_of_lookup h))⟩
 have hX:=hes K2 hC2 rfl
 refine eS fun gG gH=>?_;refine dA (K.cx.fns fi fn hf) fun fga og fdg hmg hbg hdg=>?_
 refine aF (dE isg) fun isg1 isg2=>?_
 have g0:cV B.toBs true σ (σ.to h₁ _):=.new S (σ.s.toks+([]:List (Str×Value)).length) hk₁
 refine cF (hX.hd e1 er rfl) fun p t ajN he=>?_;subst ajN
 refine gH ?_;show wpAny K2.M K2.A (eval (.Call (.Name fn.name p1) (p::t) [] p2) BL.env) _ _ (σ.to h₁ _).s
 refine Call_Name rfl (cY K2.cx BL.ok (BL.glb _ isg1) (BL.nsg g0.S) hmg ?_ isg2)
 refine Calls.callWith_function (o:=og) (fd:=fdg) (nB (he.plain (show kE K2.C Internal.glb e1 _ _ _=some (xs,ρ') from hev)) (hX.all BL (σ.to h₁ _) _ _ _ _ _ p2 g0.S hev fun σ4 vs4 xs4 g4 r4 _ k4=>⟨⟨(g4.S.base hbg).1,hdg⟩,wpAny_call ?_⟩))
 refine aF (Prod.mk.inj (Option.some.inj k4)) fun e5 e6=>?_
 subst e5
 have G4:cV B.toBs false σ σ4:=g0.any.trans (g4.any)|>.any
 have nL:∃m,σ4.s.heap.Ns σ.s.heap.objs.size m:=by
  refine iZ hns fun oL es ep gL r=>?_
  exact (gE _ oL es ⟨ep,(g4.g _ _ ⟨gL,(S.fresh aV).1⟩).1,r⟩)
 have fL:σ4.s.heap.FunFrames (hideAll σ4.s.heap (σ.s.heap.objs.size::as)) (BL.env::outer):=by
  refine zW.funs (fun e he=>?_) fun e he a ha=>?_
  ·rcases List.mem_cons.mp he with rfl|he
   ·exact ⟨by show scope.kind≠_;refine (Eq.symm F.kind)▸?_;decide,_,nL.choose,rfl,nL.choose_spec⟩
   ·exact hff σ4 G4 e he
  ·rcases List.mem_cons.mp he with rfl|he
   ·cases ha;exact .head _
   ·exact .tail _ (has e he a ha)
 refine codeAny_mono (hraise BL.env RI.handled RI.hu fn fga hf hmg σ4.s (Xs B.toBs σ4.own) vs4 (hideAll σ4.s.heap (σ.s.heap.objs.size::as)) (BL.env::outer) (ZY (K:=K2) (B:=BL) g4.S) r4 (Around.frames_deeper hfr) (fun a o g=>of_hideAll _ g) fL) fun r s' hr=>?_
 refine aD hr fun ee ajO FL=>?_;subst ajO
 exact nJ (R:=R) (s0:=σ4.s) (s1:=σ4.s) hfr rfl (fun _ _ g=>g) rfl FL fun s' F'=>h ee s' σ4 G4 e6 nL F'
end
theorem uM {k:Value}(h:CL k):ND k:=by
 obtain ⟨t,rfl⟩:=h;rfl
structure CN (K:Ct)(t:eW)(qual:Str)(c:Addr):Prop where
 hd:CodeHd K.cx.bs c t.P
 ne:mainGlobals≠t.P
 bi:K.cx.bs.BuiltinsAt K.cx.mg t.P
 qual:t.qual=qual++ "<lambda>"
structure uN {w:World}(cx:Cx w)(params:Arguments)(body:List Stmt)(scope:Scope)(fa:Addr):Prop where
 fn:iS cx.bs cx.mg "_law_told" params body scope fa
 bind:∀(v:Value) pm cd doc,bindArgs (Calls.docDef "_law_told" params body scope pm cd doc) ⟨[v],[]⟩=pure ((["work"]:List Str).zip [v])
 l1:scope.names.lookup ("work" :Str)=some .local
 l2:scope.names.lookup ("refusal" :Str)=some .local
 l3:scope.names.lookup ("CasFail" :Str)=some .globalImplicit
 body:∃p1 p2 p3 p4 p5 p6 p7 p8 p9,body=[.Try [.Return (some (.Call (.Name "work" p1) [] [] p2)) p3] [.ExceptHandler (some (.Name "CasFail" p4)) (some "refusal") [.Return (some (.Attribute (.Name "refusal" p5) "kind" p6)) p7] p8] [] [] p9]
section
variable {K:Ct}{ns:dL}{Γ:cZ}{B:cU K ns Γ}{Q:Value→Shared→Prop}{E:Value→Shared→Prop}
structure CP (B:cU K ns Γ)(σ:Pt)(P:Addr)(ρ':Fm)(as:List Addr)(k:Value)(σ4:Pt)(h':Heap)(L1 L2:Addr):Prop where
 dom:CL k
 G:cV B.toBs false σ σ4
 ρ:σ4.ρ=ρ'
 n1:∃m,σ4.s.heap.Ns L1 m
 n2:∃m,σ4.s.heap.Ns L2 m
 fr:∀a o,σ.s.heap.get? a=some o→a≠P→a≠L1∧a≠L2
 st:(hideAll σ4.s.heap (L2::L1::as)).StaysIn h'
 u:CK L1 σ4.s.heap h'
theorem FM {C:Addr}{ts:List eW}(hT:K.T=nR ts)(FN:iC K.cx){d:Nat}(RM:dK K.A (d+3))(CA:VE K.w K.cx C){t:eW}(ht:t∈ts)(hts:∀u∈ts,u.P=t.P→u=t){c:Addr}(hc:B.env.code=.ref c)(LH:CN K t B.env.qual c)
  {pT:Arguments} {bT:List Stmt} {sT:Scope} {fT:Addr} (TD:uN K.cx pT bT sT fT) (isT:gK ns "_law_told" =true) {scope:Scope} (hco:scope.isCoroutine=false) (hgen:scope.isGenerator=false) (F:bY ns Γ scope [])
  {p1 p2 p3 pos:Pos} {vs:List Expr} {fi:Nat} {fn:Fn} (hf:nS[fi]? =some fn) (isg:gK scope.names fn.name=true) {e1:Internal.E} {er:List Internal.E} (hes:∀K':Ct,cA K'→K'.io=K.io→mM K' scope.names (cN Γ scope []) (e1::er) vs)
  {σ:Pt} (S:dZ B.toBs σ) {xs:List V} {ρ':Fm} (hev:bW (aT d) Internal.glb (e1::er) _ σ.ρ (fun l ρ=>some (l,ρ))=some (xs,ρ'))
  (hraise:∀A hh hu,dK A (d+1)→dS (K.at A hh hu (aT d) K.N K.io).t0 C fi xs) {low:List Env} (hfr:K.A.frames=some low) {as:List Addr} (has:∀env∈low,∀a,env.frame=some a→a∈as) (hbas:∀a∈as,K.cx.bs.get? a=none) (hff:∀σ',cV B.toBs false σ σ'→zW σ'.s.heap low)
  (h:∀k σ4 h' tk L1 L2,CP B σ t.P ρ' as k σ4 h' L1 L2→Q k {σ4.s with heap:=h',toks:=tk}):
  wpAny K.M K.A (eval (.Call (.Name "_law_told" p3) [.Lambda ⟨[],[],none,[],[],none,[]⟩ (.Call (.Name fn.name p1) vs [] p2) scope t.pos] [] pos) B.env) Q E σ.s:=by
 refine aF (dE isT) fun isT1 isT2=>?_
 refine GA TD.fn.obj fun oT pm cd doc hbs hdata hcode=>?_
 have tbP:K.T.tb t.P:=by refine (Eq.symm hT)▸?_;exact ⟨t,ht,rfl⟩
 refine Call_Name rfl (cY K.cx B.ok (B.glb _ isT1) (B.nsg S) TD.fn.there ?_ isT2)
 refine Calls.callWith_function (o:=oT) (fd:=Calls.docDef "_law_told" pT bT sT pm cd doc) (Calls.evalArgs_plain (Calls.spliced_cons ?_))
 refine NF hT ht hts hc LH.hd LH.ne LH.bi LH.qual F S fun f o cl cv ctv h1 tk1 hcl ho hod hrec S1 nX hnew hk1=>?_
 subst hod
 have g1:cV B.toBs true σ (σ.to h1 tk1):=⟨S1,⟨⟨fun a o g tt _ _=>hk1 a o g fun e=>tt (e▸tbP),fun _ m=>.inl m⟩,fun p hp v r=>r.at fun o g=>hk1 _ o g fun e=>(UC hp).1 (e▸tbP)⟩,rfl,fun _=>rfl⟩
 refine Calls.spliced_nil ⟨⟨(S1.base hbs).1,hdata⟩,wpAny_call ?_⟩
 refine aa4 TD.body fun q1 q2 q3 q4 q5 q6 q7 q8 q9 hbody=>?_
 subst hbody
 have base1:∀a o,K.cx.bs.get? a=some o→h1.get? a=some o:=fun a o e=>(S1.base e).1
 refine call_cells (s:=(σ.to h1 tk1).s) (binds:=[(("work" :Str),.ref f)]) RM.dl (base1 _ _ hbs) hdata (K.cx.nolim.keeps base1) (hcode.keeps base1) (TD.bind _ _ _ _)
  (fun x hx=>by refine (Eq.symm (List.mem_singleton.mp hx))▸?_;exact .inl TD.l1) (fun h2 tk2 Fh X=>?_) TD.fn.co TD.fn.gen TD.fn.kind
 have RI:=RM.deeper (envOfC "_law_told" sT h1.objs.size fT cd)
 have g2:cV B.toBs true σ (σ.to h2 tk2):=g1.trans (.new (σ:=σ.to h1 tk1) S1 tk2 Fh.keep)
 have nL1:=Fh.ns
 refine jX CA.at' fun N fI mN CA=>?_
 have hX1:¬Xs B.toBs σ.own h1.objs.size:=(S1.fresh aV).1
 refine FJ (E:=fun e s'=>wpAny K.M (K.A.deeper (envOfC "_law_told" sT h1.objs.size fT cd)) (leaving (envOfC "_law_told" sT h1.objs.size fT cd) e) _ _ s') (s:=(σ.to h2 tk2).s) (L:=h1.objs.size) (outer:=low) (fL:=f)
  (P:=fun base hm k=>∃σ4 L2,hm=σ4.s.heap∧CL k∧cV B.toBs false σ σ4∧σ4.ρ=ρ'∧(∃m,hm.Ns h1.objs.size m)∧(∃m,hm.Ns L2 m)∧(∀a o,σ.s.heap.get? a=some o→a≠t.P→a≠h1.objs.size∧a≠L2)∧base=hideAll hm (L2::h1.objs.size::as))
  CA K.cx.nsg (Around.frames_deeper hfr) RI.handled TD.fn.kind rfl TD.l1 TD.l2 TD.l3 rfl rfl nL1 ?_ (Fh.keep _ _ ho) rfl ?_ ?_
 ·show bindL _ _ _ "work" =_
  exact rS (ns:=["work"]) (vs:=[.ref f]) (i:=0) TD.l1 (List.nodup_cons.mpr ⟨List.not_mem_nil,List.nodup_nil⟩) rfl rfl
 ·have nl14:∀{σ':Pt},cV B.toBs false (σ.to h2 tk2) σ'→∃m,σ'.s.heap.Ns h1.objs.size m:=fun g=>by
   refine iZ nL1 fun oL es ep gL r=>?_
   exact (gE _ oL es ⟨ep,(g.g _ _ ⟨gL,hX1⟩).1,r⟩)
  refine wpAny_call (zX (σ:=σ.to h2 tk2) (as:=h1.objs.size::as) (outer:=envOfC "_law_told" sT h1.objs.size fT cd::low) FN RI (Fh.keep _ _ ho) (hrec.keeps Fh.keep) hco hgen F hcl hf isg hes g2.S hev (fun env hh hu=>hraise _ hh hu (RI.deeper env)) (Around.frames_deeper hfr) (fun env he a ha=>?_) (fun σ' G4 env he=>?_) fun e s' σ4 G4 e4 nL2 FL=>?_)
  ·rcases List.mem_cons.mp he with rfl|he
   ·cases ha;exact .head _
   ·exact .tail _ (has env he a ha)
  ·rcases List.mem_cons.mp he with rfl|he
   ·exact ⟨by show sT.kind≠_;refine (Eq.symm TD.fn.kind)▸?_;decide,_,(nl14 G4).choose,rfl,(nl14 G4).choose_spec⟩
   ·exact hff σ' (g2.trans G4).any env he
  ·refine oP FL.at' fun ea da mA ajR Fl n1 ajS nd=>?_;subst ajR;obtain ⟨k,kd,kD⟩:=ajS
   have G04:cV B.toBs false σ σ4:=(g2.trans G4).any
   have fr2:∀a o,σ.s.heap.get? a=some o→a≠t.P→a≠h1.objs.size∧a≠h2.objs.size:=fun a o e n=>⟨fun q=>absurd (Heap.lt_size (hk1 a o e n)) (by refine (Eq.symm q)▸?_;exact Nat.lt_irrefl _),fun q=>absurd (Heap.lt_size (Fh.keep _ _ (hk1 a o e n))) (by refine (Eq.symm q)▸?_;exact Nat.lt_irrefl _)⟩
   refine (gE _ σ4.s.heap k ⟨(bM σ4 h2.objs.size ⟨rfl,kD,G04,e4,nl14 G4,nL2,fr2,rfl⟩),uM kD,fun a o e=>?_,⟨(gE ea da mA ⟨rfl,Fl,n1,kd,fun q=>?_⟩),.of FL.up,?_⟩,_,_,(g2.u.trans G4.u).trans FL.same⟩)
   ·have e1:=S.base e
    have nP:a≠t.P:=fun q=>e1.2 (.inl (B.tbN a (q▸tbP)).2.1)
    refine hideAll_get _ (G04.S.base e).1 fun hm=>?_
    rcases List.mem_cons.mp hm with q|hm
    ·exact (fr2 a o e1.1 nP).2 q
    ·rcases List.mem_cons.mp hm with q|hm
     ·exact (fr2 a o e1.1 nP).1 q
     ·rw [hbas a hm] at e;cases e
   ·refine aR (nl14 G4) fun m ajT=>?_;obtain ⟨oL,es,ep,g1,_⟩:=ajT
    rw [q,g1] at nd;cases nd
   ·refine aR (nl14 G4) fun m n14=>?_
    exact ⟨m,FL.up.ns n14⟩
 ·intro base hm k h' tk P hst hfs U
  refine eS fun gG gH=>?_;refine aaW P fun σ4 L2 ajU kD G4 e4 nl1 nl2 fr2 ajV=>?_;subst ajU;subst ajV
  refine gH ?_;have:=h k σ4 h' tk _ L2 ⟨kD,G4,e4,nl1,nl2,fr2,hst,U⟩
  rw [show σ4.s={σ.s with heap:=σ4.s.heap,toks:=σ4.s.toks} from G4.u] at this
  exact this
end
structure qF (ns:dL)(Γ:cZ)(io:Bool)(fn:Fn)(es:List E)(st:Stmt)(lp:Pos):Prop where
 ex:∃p1 p2 p3 p4 p5 p6 ck cp vs scope,st=.Return (some (.Compare (.Call (.Name "_law_told" p3) [.Lambda ⟨[],[],none,[],[],none,[]⟩ (.Call (.Name fn.name p1) vs [] p2) scope lp] [] p4) [.Eq] [.Constant (.str (nm 24)) ck cp] p5)) p6∧
  gK scope.names fn.name=true∧scope.isCoroutine=false∧scope.isGenerator=false∧bY ns Γ scope []∧∀K':Ct,cA K'→(io=false→K'.io=none)→mM K' scope.names (cN Γ scope []) es vs
 isT:gK ns "_law_told" =true
section
variable {K:Ct}{ns:dL}{Γ:cZ}{B:cU K ns Γ}{Q:Flow→Shared→Prop}{E:Value→Shared→Prop}
theorem FO {C:Addr}{ts:List eW}(hT:K.T=nR ts)(FN:iC K.cx){d:Nat}(RM:dK K.A (d+3))(CA:VE K.w K.cx C){t:eW}(ht:t∈ts)(hts:∀u∈ts,u.P=t.P→u=t){c:Addr}(hc:B.env.code=.ref c)(LH:CN K t B.env.qual c)
  {pT:Arguments} {bT:List Stmt} {sT:Scope} {fT:Addr} (TD:uN K.cx pT bT sT fT) {st:Stmt} {fi:Nat} {fn:Fn} (hf:nS[fi]? =some fn) {io:Bool} {e1:Internal.E} {er:List Internal.E} (LA:qF ns Γ io fn (e1::er) st t.pos) (hio:io=false→K.io=none)
  {σ:Pt} (S:dZ B.toBs σ) {xs:List V} {ρ':Fm} (hev:bW (aT d) Internal.glb (e1::er) _ σ.ρ (fun l ρ=>some (l,ρ))=some (xs,ρ'))
  (hraise:∀A hh hu,dK A (d+1)→dS (K.at A hh hu (aT d) K.N K.io).t0 C fi xs) {low:List Env} (hfr:K.A.frames=some low) {as:List Addr} (has:∀env∈low,∀a,env.frame=some a→a∈as) (hbas:∀a∈as,K.cx.bs.get? a=none) (hff:∀σ',cV B.toBs false σ σ'→zW σ'.s.heap low)
  (h:∀σ4 h' tk L1 L2,(∃k,CP B σ t.P ρ' as k σ4 h' L1 L2)→Q (.ret (.bool true)) {σ4.s with heap:=h',toks:=tk}):wpAny K.M K.A (exec st B.env) Q E σ.s:=by
 refine VR LA.ex fun p1 p2 p3 p4 p5 p6 ck cp vs scope ajP isg hco hgen F hes=>?_;subst ajP
 refine wpAny_Return_some (wpAny_Compare1 (FM hT FN RM CA ht hts hc LH TD LA.isT hco hgen F hf isg (fun K' HC e=>hes K' HC fun q=>e.trans (hio q)) S hev hraise hfr has hbas hff fun k σ4 h' tk L1 L2 TE=>wpAny_Constant_str ?_) (kN .eq _))
 refine aR TE.dom fun t' e=>?_
 subst e
 refine GN (o:=.eq) (g:=fun _ _=>False) (k:=fun v=>some v) (x:=.str 24) (y:=.str 24) (z:=.bool true) (s:={σ4.s with heap:=h',toks:=_}) (fun _ _ g=>g.elim) (abG K) ⟨by decide,t',rfl⟩ ⟨by decide,_,rfl⟩ rfl fun h'' tk' r x hk hx hr=>?_
 cases hx
 cases hr
 exact h σ4 h'' tk' L1 L2 ⟨_,TE.dom,TE.G,TE.ρ,TE.n1,TE.n2,TE.fr,fun b o g=>hk b o (TE.st b o g),TE.u.trans fun b o n g _=>⟨o.slots,hk b o g⟩⟩
end
noncomputable def penL (l:List Int)(k t:Int):List V:=[.lst (l.map .int),.int k,.int t]
abbrev NoD (o:Obj):Prop:=∀es ep,o.data≠.dict es ep
theorem NH {P:Params}{g g':Gh}{l:List Int}:∀{vs:List Value},bJ P g vs (l.map .int)→bJ P g' vs (l.map .int):=by
 induction l with
 |nil=>intro vs h;cases h;rfl
 |cons i l ih=>intro vs h;refine bN h fun v t ajW ajX r=>?_;subst ajW;obtain ⟨tk,rfl⟩:=ajX;exact (bM _ _ ⟨rfl,⟨tk,rfl⟩,ih r⟩)
theorem NI {P:Params}{g g':Gh}{vs:List Value}{l:List Int}{k t:Int}(h:bJ P g vs (penL l k t))(m:∀a o,g a o→NoD o→g' a o):bJ P g' vs (penL l k t):=by
 obtain ⟨v,w,rfl,⟨a,us,n,rfl,ga,ra⟩,v2,w2,rfl,⟨t2,rfl⟩,v3,w3,rfl,⟨t3,rfl⟩,h4⟩:=h
 cases h4
 exact (bM _ _ ⟨rfl,(gE a us n ⟨rfl,m _ _ ga fun es ep q=>(nomatch q),NH ra⟩),_,_,rfl,⟨t2,rfl⟩,_,_,rfl,⟨t3,rfl⟩,rfl⟩)
theorem NJ {g g':Gh}{P:Addr}{pos:Pos}{qual:Str}(h:wW g P pos qual)(m:∀a o,g a o→NoD o→g' a o):wW g' P pos qual:=by
 refine aD h fun ps h1 h2=>?_
 refine ⟨ps,m _ _ h1 (fun es ep q=>(nomatch q)),h2.imp id ?_⟩
 rintro ⟨c',oc,vs,u,e,k,r1,r2⟩
 exact (zZ c' oc vs u ⟨e,m _ _ k (fun es ep q=>by rw [r1] at q;cases q),r1,r2⟩)
structure CQ (K:Ct)(h:Heap)(low:List Env)(ls:List Addr)(a:Addr):Prop where
 fr:K.A.frames=some low
 ok:zW h low
 sub:∀env∈low,∀b,env.frame=some b→b∈ls
 ne:∀l∈ls,¬K.T.tb l∧l≠a∧K.cx.bs.get? l=none∧∃m,h.Ns l m
theorem gQ.kept {fn:Fn}{scope:Scope}{K':Ct}{B:cU K' scope.names (fn.vars.map some)}{σ σ':Pt}{s:Shared}{out:Addr→Prop}{io:Option Addr}{slots:List aE}{env:Env}(EN:gQ B σ s fn out io slots env)(hN:K'.N=s.heap.objs.size)(G:fK B.toBs [] σ σ')(b:Addr)(o:Obj)(g:s.heap.get? b=some o)(n1:¬K'.T.tb b)(n2:io≠some b):σ'.s.heap.get? b=some o:=
 G.w.k b o (EN.keep b o g) n1 (fun ⟨p,hp,e⟩=>absurd (Heap.lt_size g) (Nat.not_lt.mpr (e▸hN▸(B.pl p hp).1))) fun m=>by
  rw [EN.own] at m
  exact (List.mem_cons.mp m).elim (fun e=>n2 e.symm) fun m=>(nomatch (List.mem_replicate.mp m).2)
theorem wX {h:Heap}{L b:Addr}{o:Obj}(n:∃m,h.Ns L m)(g:h.get? b=some o)(nd:NoD o):b≠L:=fun q=>by
 refine aR n fun m ajQ=>?_;obtain ⟨o',es,ep,g',gd,_⟩:=ajQ
 rw [←q,g] at g';cases g';exact nd es ep gd
theorem wY {K:Ct}{C:Addr}{ts:List eW}(hT:K.T=nR ts)(FN:iC K.cx){d:Nat}(RM:dK K.A (d+4))(CA:VE K.w K.cx C){t:eW}(ht:t∈ts)(hts:∀u∈ts,u.P=t.P→u=t)
  {pT:Arguments} {bT:List Stmt} {sT:Scope} {fT:Addr} (TD:uN K.cx pT bT sT fT) {fn:Fn} (hio:fn.io=true) (har:fn.arity=1) {params:Arguments} {body:List Stmt} {scope:Scope} {fa:Addr} (FA:iS K.cx.bs K.cx.mg fn.name params body scope fa) (OK:qX fn params body scope)
  {init:List S} {fi:Nat} {gfn:Fn} (hfi:nS[fi]? =some gfn) {x1:E} {xr:List E} (hb:∃pinit st,body=pinit++[st]∧(∀K':Ct,cA K'→nQ K' scope.names (fn.vars.map some) init pinit)∧qF scope.names (fn.vars.map some) true gfn (x1::xr) st t.pos)
  {c:Addr} (hcd:∀o pm cd doc,K.cx.bs.get? fa=some o→o.data=.func (Calls.docDef fn.name params body scope pm cd doc)→cd=.ref c) (LH:CN K t (fn.name++ ".<locals>.") c) (hloc:∃x∈fn.vars,scope.names.lookup x=some .local) {s:Shared} {out:Addr→Prop} {a:Addr} (pre:cP K s.heap out (some a)) {sl:List V} (ho:dB K.w.params (go s.heap out) s.heap a (.l sl))
  {ρ2:Fm} {xs:List V} {l:List Int} {k tt:Int} (ev:aU (aT (d+2)) glb init _ (.l sl::List.replicate (fn.vars.length - 1) .un) (fun ρ=>bW (aT d) glb (x1::xr) _ ρ fun l ρ=>some (l,ρ)) (fun _ _=>none)=some (xs,ρ2)) (hpen:ρ2[0]? =some (.l (penL l k tt)))
  (hraise:∀A hh hu N,dK A (d+1)→dS (K.at A hh hu (aT d) N (some a)).t0 C fi xs) {low:List Env} {ls:List Addr} (LO:CQ K s.heap low ls a) {R:Result→Shared→Prop}
  (h:∀h' tk,(∀b o,s.heap.get? b=some o→¬K.T.tb b→b≠a→b∉ls→h'.get? b=some o)→(∀b∈ls,∀m,s.heap.Ns b m→h'.Ns b m)→K.T.inv (fun b o=>h'.get? b=some o∧(K.T.tb b∨¬out b))→dB K.w.params (go h' out) h' a (.l (penL l k tt))→R (.ok (.ret (.bool true))) {s with heap:=h',toks:=tk}):
  codeAny K.M K.A (.call (.ref fa) ⟨[.ref a],[]⟩) R s:=by
 refine bN hb fun pinit st ajY hA LA=>?_;subst ajY
 refine gA (io:=some a) (slots:=[.l sl]) RM.dl FA OK (by refine (Eq.symm har)▸?_;rfl) pre (gE (.l sl) [] [] ⟨rfl,rfl,ho,rfl⟩) (aT (d+2)) (fun env=>⟨RM.handled,(RM.deeper env).hu⟩) fun cd hcdo B σ EN=>?_
 have RI:=RM.deeper (envOfC fn.name scope s.heap.objs.size fa cd)
 let K1:=K.at (K.A.deeper (envOfC fn.name scope s.heap.objs.size fa cd)) RI.handled RI.hu (aT (d+2)) s.heap.objs.size (some a)
 have hC1:cA K1:=uJ (d+2) (K:=K1) FN RI rfl
 have eenv:=EN.env
 refine iZ hcdo fun oa pm doc hbs hdt=>?_
 have ecd:=hcd oa pm cd doc hbs hdt
 have tbP:K.T.tb t.P:=by refine (Eq.symm hT)▸?_;exact ⟨t,ht,rfl⟩
 have kp:∀{σ'},fK B.toBs [] σ σ'→∀b o,s.heap.get? b=some o→¬K.T.tb b→b≠a→σ'.s.heap.get? b=some o:=fun G b o g n1 n2=>EN.kept rfl G b o g n1 fun q=>n2 (Option.some.inj q).symm
 have lsN:∀{σ'},fK B.toBs [] σ σ'→∀b∈ls,∀m,s.heap.Ns b m→σ'.s.heap.Ns b m:=fun G b hb m n=>by
  refine iZ n fun o es ep g r=>?_
  exact (gE o es ep ⟨kp G b o g (LO.ne b hb).1 (LO.ne b hb).2.1,r⟩)
 refine qE (hA K1 hC1) EN.S (by rw [EN.ρ,har];exact ev) fun σ2 G2 k2=>?_
 refine wpAny_execs_cons (FO (K:=K1) (as:=s.heap.objs.size::ls) (low:=envOfC fn.name scope s.heap.objs.size fa cd::low) hT FN RI CA ht hts (c:=c) (by refine (Eq.symm eenv)▸?_;exact ecd) ⟨LH.hd,LH.ne,LH.bi,by refine (Eq.symm eenv)▸?_;exact LH.qual⟩ TD hfi LA (by intro q;cases q) G2.S k2
  (fun A hh hu RA=>hraise A hh hu _ RA) (Around.frames_deeper LO.fr) (fun env he b hb=>?_) (fun b hb=>?_) (fun σ' G env he=>?_) fun σ4 h' tk' L1 L2 ⟨kk,TE⟩=>?_)
 ·rcases List.mem_cons.mp he with rfl|he
  ·cases hb;exact .head _
  ·exact .tail _ (LO.sub env he b hb)
 ·show K.cx.bs.get? b=none
  rcases List.mem_cons.mp hb with rfl|hb
  ·cases q:K.cx.bs.get? s.heap.objs.size with
   |none=>rfl
   |some o=>exact absurd (Heap.lt_size (pre.base _ _ q).1) (Nat.lt_irrefl _)
  ·exact (LO.ne b hb).2.2.1
 ·have G':=G2.trans G.os
  rcases List.mem_cons.mp he with rfl|he
  ·refine aR (EN.tab hloc G.S) fun m n=>?_
   exact ⟨by refine eenv▸?_;refine (Eq.symm B.ok.kind)▸?_;decide,_,m,rfl,n⟩
  ·refine aF (LO.ok env he) fun kd ajZ=>?_;obtain ⟨L,m,f,n⟩:=ajZ
   exact ⟨kd,L,m,f,lsN G' L (LO.sub env he L f) m n⟩
 ·have G4:=G2.trans TE.G.os
  have nF:=EN.tab hloc TE.G.S
  have nLs:∀b∈ls,∃m,σ4.s.heap.Ns b m:=fun b hb=>aR ((LO.ne b hb).2.2.2) fun m n=>⟨m,lsN G4 b hb m n⟩
  have st:∀b o,σ4.s.heap.get? b=some o→b≠L1→b≠L2→b≠s.heap.objs.size→b∉ls→h'.get? b=some o:=fun b o g m1 m2 m3 m4=>TE.st b o (hideAll_get _ g fun q=>by
   rcases List.mem_cons.mp q with q|q
   ·exact m2 q
   rcases List.mem_cons.mp q with q|q
   ·exact m1 q
   rcases List.mem_cons.mp q with q|q
   ·exact m3 q
   ·exact m4 q)
  have sd:∀b o,σ4.s.heap.get? b=some o→NoD o→h'.get? b=some o:=fun b o g nd=>st b o g (wX TE.n1 g nd) (wX TE.n2 g nd) (wX nF g nd) fun hb=>wX (nLs b hb) g nd rfl
  have fr:∀b o,s.heap.get? b=some o→¬K.T.tb b→b≠a→b≠L1∧b≠L2:=fun b o g m1 m2=>TE.fr b o (kp G2 b o g m1 m2) fun q=>m1 (q▸tbP)
  have:=h h' tk' (fun b o g m1 m2 m3=>st b o (kp G4 b o g m1 m2) (fr b o g m1 m2).1 (fr b o g m1 m2).2 (Nat.ne_of_lt (Heap.lt_size g)) m3) (fun b hb m n=>?_) ?_ ?_
  ·refine (Eq.symm (show σ4.s={s with heap:=σ4.s.heap,toks:=σ4.s.toks} from (EN.up.trans G2.u).trans TE.G.u))▸?_;exact this
  ·refine iZ (id n) fun o _ _ g _=>?_
   exact TE.u.ns (fr b o g (LO.ne b hb).1 (LO.ne b hb).2.1).1 (lsN G4 b hb m n)
  ·have ti:=TE.G.S.ti
   rw [show K1.kx.T=nR ts from hT] at ti
   have tbT:∀b,K.T.tb b→(nR ts).tb b:=fun b q=>hT▸q
   refine (Eq.symm hT)▸?_
   exact fun u hu=>NJ (ti u hu) fun b o g nd=>⟨sd b o g.1 nd,(show K.T.tb b∨¬Xs B.toBs σ4.own b from g.2).imp (tbT b) fun n x=>n (.inl (EN.out▸x))⟩
  ·have w3:=TE.G.S.own0 a rfl
   refine eS fun gG gH=>?_;refine bN (TE.G.S.get (TE.ρ▸hpen)) fun p oo w1 w2 k4=>?_
   rw [w3] at w2;cases w2
   refine aF k4 fun _ aj0=>?_;obtain ⟨vs,n,g,r⟩:=aj0
   refine gH ?_;exact (bM vs n ⟨sd a _ g fun es ep q=>(nomatch q),NI r fun b o g nd=>⟨sd b o g.1 nd,fun x=>g.2 (.inl (EN.out▸x))⟩⟩)
noncomputable def oM (j n:Nat):Stmt:=(cO j).b.getD n (.Pass p0)
noncomputable def hdS (l:List Stmt):Stmt:=l.headD (.Pass p0)
noncomputable def rzX (st:Stmt):Expr:=(vs st).v
noncomputable def rzP (st:Stmt):Pos:=match st with
 |.Raise _ _ p=>p
 |_=>p0
noncomputable def afD (e:Expr):Str:=(vw e).s
noncomputable def ehV (h:ExceptHandler):Expr×List Stmt×Pos:=match h with
 |.ExceptHandler t _ b p=>(t.getD dx,b,p)
noncomputable def laV (e:Expr):Expr×Scope×Pos:=(x1 e,(vw e).sc.getD ⟨.function,[],false,false,[]⟩,xp e)
noncomputable def VG (j n:Nat):Expr:=rzX (hdS (vs (oM j n)).b)
theorem TK {K:Ct}{ns:dL}{Γ:cZ}{l:List E}{b:List Expr}(h:Option {st // mM K ns Γ l st})(e:h.map (·.1)=some b):mM K ns Γ l b:=by
 cases h with
 |none=>cases e
 |some p=>cases e;exact p.2
theorem CR {K:Ct}{ns:dL}{Γ:cZ}{l:E}{b:Expr}(h:Option {st // bX K ns Γ l st})(e:h.map (·.1)=some b):bX K ns Γ l b:=by
 cases h with
 |none=>cases e
 |some p=>cases e;exact p.2
theorem oN {K:Ct}{ns:dL}{Γ:cZ}{l:List S}{b:List Stmt}(h:Option {st // nQ K ns Γ l st})(e:h.map (·.1)=some b):nQ K ns Γ l b:=by
 cases h with
 |none=>cases e
 |some p=>cases e;exact p.2
noncomputable def prA {K:Ct}(HC:cA K)(io:Bool)(hio:io=false→K.io=none)(ns:dL)(Γ:cZ):(l:List S)→List Stmt→Option {st // nQ K ns Γ l st}
 |[],_=>some ⟨[],.nil⟩
 |s::r,l=>(prS HC io hio ns Γ s (l.headD (.Pass p0))).bind fun p=>(prA HC io hio ns Γ r l.tail).bind fun q=>some ⟨p.1::q.1,.cons p.2 q.2⟩
noncomputable def ZZ (fn:Fn)(scope:Scope):Bool:=fn.vars.any fun x=>scope.names.lookup x==some .local
theorem iF {fn:Fn}{scope:Scope}(h:ZZ fn scope=true):∃x∈fn.vars,scope.names.lookup x=some .local:=by
 refine aD (List.any_eq_true.mp h) fun x hx e=>?_
 exact ⟨x,hx,eq_of_beq e⟩
theorem qG {j n:Nat}(h:(vs (oM j n)).b=[.Raise (some (.Call (.Name "CasFail" (xp (x1 (VG j n)))) [.Constant (.str "domain") (xk (l1 (xl (VG j n)))) (xp (l1 (xl (VG j n)))),.Constant (.str (afD (l2 (xl (VG j n))))) (xk (l2 (xl (VG j n)))) (xp (l2 (xl (VG j n))))] [] (xp (VG j n)))) none (rzP (hdS (vs (oM j n)).b))])
  (hl:Nat.ble (afD (l2 (xl (VG j n)))).length 1000=true):CM (vs (oM j n)).b:=(ei8 _ _ _ _ _ _ _ _ ⟨h,Nat.le_of_ble_eq_true hl⟩)
noncomputable def tst (s:S):E:=match s with
 |.ite t _ _=>t
 |_=>.bad
noncomputable def t82:E:=tst (cK f_taylor_term.body 0)
noncomputable def t80:E:=tst (cK f_limit_end.body 2)
theorem ap5:uL f_taylor_term (cO 140).b (cJ 140) [] t82:=⟨⟨[],(vs (oM 140 0)).v,(vs (oM 140 0)).b,(vs (oM 140 0)).p,(cO 140).b.tail,by kernel_rfl,qG (by kernel_rfl) (by kernel_rfl),
 fun K HC hio=>⟨.nil,(CR (eU HC false (fun _=>hio) (cJ 140).names (f_taylor_term.vars.map some) t82 (vs (oM 140 0)).v) (by kernel_rfl)).t⟩⟩,by kernel_rfl,iF (by kernel_rfl)⟩
noncomputable def NK:List S:=[cK f_limit_end.body 0,cK f_limit_end.body 1]
theorem ap6:uL f_limit_end (cO 138).b (cJ 138) NK t80:=⟨⟨(cO 138).b.take 2,(vs (oM 138 2)).v,(vs (oM 138 2)).b,(vs (oM 138 2)).p,(cO 138).b.drop 3,by kernel_rfl,qG (by kernel_rfl) (by kernel_rfl),
 fun K HC hio=>⟨oN (prA HC false (fun _=>hio) (cJ 138).names (f_limit_end.vars.map some) NK ((cO 138).b.take 2)) (by kernel_rfl),(CR (eU HC false (fun _=>hio) (cJ 138).names (f_limit_end.vars.map some) t80 (vs (oM 138 2)).v) (by kernel_rfl)).t⟩⟩,by kernel_rfl,iF (by kernel_rfl)⟩
noncomputable def VH:Expr:=(vs (oM 139 0)).v
noncomputable def w81:Expr:=l1 (xl VH).tail.tail
noncomputable def u81:Expr:=l2 (xl VH).tail.tail
theorem ap7:VF f_limit_term f_limit f_limit_end (cO 139).b (cJ 139):=⟨⟨xs (vs (oM 139 0)).t,xs (l1 (xl VH)),xs (l2 (xl VH)),xs (l1 (xl w81)),xp (vs (oM 139 0)).t,xp (x1 VH),xp (l1 (xl VH)),xp (l2 (xl VH)),xp (x1 w81),xp (l1 (xl w81)),xp w81,xp VH,(vs (oM 139 0)).p,u81,(cO 139).b.tail,by kernel_rfl,by kernel_rfl,by kernel_rfl,by kernel_rfl⟩,by kernel_rfl,by kernel_rfl,iF (by kernel_rfl)⟩
structure aaA (params:Arguments)(body:List Stmt)(scope:Scope):Prop where
 bind:∀(v:Value) pm cd doc,bindArgs (Calls.docDef "_law_told" params body scope pm cd doc) ⟨[v],[]⟩=pure ((["work"]:List Str).zip [v])
 l1:scope.names.lookup ("work" :Str)=some .local
 l2:scope.names.lookup ("refusal" :Str)=some .local
 l3:scope.names.lookup ("CasFail" :Str)=some .globalImplicit
 body:∃p1 p2 p3 p4 p5 p6 p7 p8 p9,body=[.Try [.Return (some (.Call (.Name "work" p1) [] [] p2)) p3] [.ExceptHandler (some (.Name "CasFail" p4)) (some "refusal") [.Return (some (.Attribute (.Name "refusal" p5) "kind" p6)) p7] p8] [] [] p9]
noncomputable def NL:Stmt:=oM 151 0
noncomputable def NM:Stmt:=hdS (vs NL).b
noncomputable def NN:Expr×List Stmt×Pos:=ehV ((vs NL).h.headD (.ExceptHandler none none [] p0))
noncomputable def NO:Stmt:=hdS NN.2.1
theorem wZ:aaA (iM 151) (cO 151).b (cJ 151):=⟨fun v pm cd doc=>by kernel_rfl,by kernel_rfl,by kernel_rfl,by kernel_rfl,
 (ei9 (xp (x1 (vs NM).v)) (xp (vs NM).v) ((vs NM).p) (xp NN.1) (xp (x1 (vs NO).v)) (xp (vs NO).v) ((vs NO).p) NN.2.2 ((vs NL).p) (by kernel_rfl))⟩
noncomputable def NP:Stmt:=oM 152 6
noncomputable def NQ:Stmt:=oM 153 10
noncomputable def NR (st:Stmt):Expr:=x1 (vs st).v
noncomputable def aaB (st:Stmt):Expr:=l1 (xl (NR st))
noncomputable def xA (st:Stmt):Expr:=(laV (aaB st)).1
noncomputable def zY (st:Stmt):Scope:=(laV (aaB st)).2.1
noncomputable def xB (st:Stmt):Pos:=(laV (aaB st)).2.2
noncomputable def afF:List E:=[.var 2,.str 17,.sub (.var 12) (.int 0),.sub (.var 12) (.int 1)]
noncomputable def afG:List E:=[.var 5,.str 17,.sub (.lst [.tup [.str 1,.str 18],.tup [.str 3,.tup [.tup [.str 0,.int 2,.int 1],.var 7]],.glob 15]) (.callO 83 0 [.int 3]),.int 0]
theorem sL {ns:dL}{Γ:cZ}{fn:Fn}{es:List E}{st:Stmt}(h:st=.Return (some (.Compare (.Call (.Name "_law_told" (xp (x1 (NR st)))) [.Lambda ⟨[],[],none,[],[],none,[]⟩ (.Call (.Name fn.name (xp (x1 (xA st)))) (xl (xA st)) [] (xp (xA st))) (zY st) (xB st)] [] (xp (NR st))) [.Eq] [.Constant (.str (nm 24)) (xk (l1 (xl (vs st).v))) (xp (l1 (xl (vs st).v)))] (xp (vs st).v))) (vs st).p)
  (h1:gK (zY st).names fn.name=true) (h2:(zY st).isCoroutine=false) (h3:(zY st).isGenerator=false) (h4:tO ns Γ (zY st) []=true) (h5:gK ns "_law_told" =true)
  (h6:∀(K':Ct) (HC:cA K'),(pL HC true (fun e=>nomatch e) (zY st).names (cN Γ (zY st) []) es (xl (xA st))).map (·.1)=some (xl (xA st))):qF ns Γ true fn es st (xB st):=
 ⟨(akK _ _ _ _ _ _ _ _ _ _ ⟨h,h1,h2,h3,rR h4,fun K' HC _=>TK _ (h6 K' HC)⟩),h5⟩
theorem afH:qF (cJ 152).names (f_law_beginning_right.vars.map some) true f_taylor_term afF NP (xB NP):=sL (by kernel_rfl) (by kernel_rfl) (by kernel_rfl) (by kernel_rfl) (by kernel_rfl) (by kernel_rfl) fun K' HC=>by kernel_rfl
theorem afI:qF (cJ 153).names (f_law_limits_right.vars.map some) true f_limit_term afG NQ (xB NQ):=sL (by kernel_rfl) (by kernel_rfl) (by kernel_rfl) (by kernel_rfl) (by kernel_rfl) (by kernel_rfl) fun K' HC=>by kernel_rfl
theorem VI:(cO 152).b=(cO 152).b.take 6++[NP]∧∀K':Ct,cA K'→nQ K' (cJ 152).names (f_law_beginning_right.vars.map some) zK ((cO 152).b.take 6):=⟨by kernel_rfl,fun K' HC=>oN (prA HC true (fun e=>nomatch e) (cJ 152).names (f_law_beginning_right.vars.map some) zK ((cO 152).b.take 6)) (by kernel_rfl)⟩
theorem VJ:(cO 153).b=(cO 153).b.take 10++[NQ]∧∀K':Ct,cA K'→nQ K' (cJ 153).names (f_law_limits_right.vars.map some) zP ((cO 153).b.take 10):=⟨by kernel_rfl,fun K' HC=>oN (prA HC true (fun e=>nomatch e) (cJ 153).names (f_law_limits_right.vars.map some) zP ((cO 153).b.take 10)) (by kernel_rfl)⟩
theorem afJ:∃x∈f_law_beginning_right.vars,(cJ 152).names.lookup x=some .local:=iF (by kernel_rfl)
theorem afK:∃x∈f_law_limits_right.vars,(cJ 153).names.lookup x=some .local:=iF (by kernel_rfl)
section
variable {K:Ct}{C:Addr}
theorem VK {d:Nat}{t:V}{x y:Int}{w:V}(hw:w∈kZ x y):∃a b,w=.tup [a,b]∧kE (aT (d+31)) glb t82 Bool [.v t,.v (.str 17),.v a,.v b,.un,.un,.un,.un] (fun v _=>dG v some)=some true:=by
 simp only [kZ,List.mem_cons,List.not_mem_nil,or_false] at hw
 rcases hw with rfl|rfl|rfl|rfl
 ·exact (bM _ _ ⟨rfl,by kernel_rfl⟩)
 ·exact (bM _ _ ⟨rfl,by kernel_rfl⟩)
 ·exact (bM _ _ ⟨rfl,by kernel_rfl⟩)
 ·exact (bM _ _ ⟨rfl,by kernel_rfl⟩)
theorem TL (CA:VE K.w K.cx C)(hT:K.T=T0)(FN:iC K.cx){d:Nat}(RM:dK K.A (d+33)){fa:Addr}(FA:iS K.cx.bs K.cx.mg f_taylor_term.name (iM 140) (cO 140).b (cJ 140) fa){t:V}{x y:Int}{a b:V}(hw:.tup [a,b]∈kZ x y):dS K C 82 [t,.str 17,a,b]:=by
 refine cF (VK (d:=d) (t:=t) hw) fun a' b' e h=>?_
 cases e
 exact wV CA hT FN RM rfl FA ae8.2 ap5 rfl h
noncomputable def jN:List V:=[.tup [.str 1,.str 18],.tup [.str 3,.tup [.tup [.str 0,.int 2,.int 1],eJ]],.tup [.str 1,.str 17]]
theorem afL {d:Nat}{e:V}(he:e∈jN):aU (aT (d+31)) glb NK Bool [.v e] (fun ρ=>kE (aT (d+31)) glb t80 Bool ρ fun v _=>dG v some) (fun _ _=>none)=some true:=by
 simp only [jN,List.mem_cons,List.not_mem_nil,or_false] at he
 rcases he with rfl|rfl|rfl<;>kernel_rfl
theorem TM (CA:VE K.w K.cx C)(hT:K.T=T0)(FN:iC K.cx){d:Nat}(RM:dK K.A (d+33)){fa:Addr}(FA:iS K.cx.bs K.cx.mg f_limit_end.name (iM 138) (cO 138).b (cJ 138) fa){e:V}(he:e∈jN):dS K C 80 [e]:=
 wV CA hT FN RM rfl FA ae6.2 ap6 rfl (afL (d:=d) he)
theorem TN (CA:VE K.w K.cx C)(hT:K.T=T0)(FN:iC K.cx){d:Nat}(RM:dK K.A (d+34)){fa fa':Addr}(FA:iS K.cx.bs K.cx.mg f_limit_end.name (iM 138) (cO 138).b (cJ 138) fa)(FA':iS K.cx.bs K.cx.mg f_limit_term.name (iM 139) (cO 139).b (cJ 139) fa'){t e s:V}(he:e∈jN):dS K C 81 [t,.str 17,e,s]:=
 FK (d:=d+32) hT RM (f:=81) rfl FA' ae7.2 (fg:=49) (fl:=80) rfl rfl ap7 rfl fun env hh hu N=>TM (K:=K.at (K.A.deeper env) hh hu (aT (d+32)) N none) CA hT FN (RM.deeper env) FA he
end
structure VL (K:Ct)(fn:Fn)(j:Nat)(t:eW)(c:Addr):Prop where
 d:∃fa,iS K.cx.bs K.cx.mg fn.name (iM j) (cO j).b (cJ j) fa∧∀o pm cd doc,K.cx.bs.get? fa=some o→o.data=.func (Calls.docDef fn.name (iM j) (cO j).b (cJ j) pm cd doc)→cd=.ref c
 lam:CN K t (fn.name++ ".<locals>.") c
structure xC (K:Ct)(C:Addr)(t1 t2:eW)(c1 c2:Addr):Prop where
 T:K.T=nR [t1,t2]
 ne:t1.P≠t2.P
 fn:iC K.cx
 cas:VE K.w K.cx C
 told:∃pT bT sT fT,uN K.cx pT bT sT fT
 l1:VL K f_law_beginning_right 152 t1 c1
 p1:t1.pos=xB NP
 l2:VL K f_law_limits_right 153 t2 c2
 p2:t2.pos=xB NQ
 d82:∃fa,iS K.cx.bs K.cx.mg f_taylor_term.name (iM 140) (cO 140).b (cJ 140) fa
 d80:∃fa,iS K.cx.bs K.cx.mg f_limit_end.name (iM 138) (cO 138).b (cJ 138) fa
 d81:∃fa,iS K.cx.bs K.cx.mg f_limit_term.name (iM 139) (cO 139).b (cJ 139) fa
structure iN (K:Ct)(h:Heap)(out:Addr→Prop)(a:Addr)(ls:List Addr)(m:Nat)(h':Heap):Prop where
 keep:∀b o,h.get? b=some o→¬K.T.tb b→b≠a→b∉ls→h'.get? b=some o
 ns:∀b∈ls,∀m,h.Ns b m→h'.Ns b m
 ti:K.T.inv fun b o=>h'.get? b=some o∧(K.T.tb b∨¬out b)
 own:∃sl,iX sl m∧dB K.w.params (go h' out) h' a (.l sl)
theorem iX.penL {s:List V}{n:Nat}(h:iX s n):∃l k t,s=Internal.penL l k t:=by
 refine iZ h fun l k t e _=>?_
 exact (gE l _ t e)
theorem NS {t1 t2 t u:eW}(ne:t1.P≠t2.P)(ht:t∈[t1,t2])(hu:u∈[t1,t2])(q:u.P=t.P):u=t:=by
 simp only [List.mem_cons,List.not_mem_nil,or_false] at ht hu
 rcases ht with rfl|rfl<;>rcases hu with rfl|rfl
 ·rfl
 ·exact absurd q.symm ne
 ·exact absurd q ne
 ·rfl
section
variable {K:Ct}{C:Addr}{t1 t2:eW}{c1 c2:Addr}
theorem NT (H:xC K C t1 t2 c1 c2)(RM:dK K.A 62){s:Shared}{out:Addr→Prop}{a:Addr}(pre:cP K s.heap out (some a)){sl:List V}(ho:dB K.w.params (go s.heap out) s.heap a (.l sl)){m:Nat}(hp:iX sl (12+m))
  {low:List Env} {ls:List Addr} (LO:CQ K s.heap low ls a) {fa:Addr} (hm:K.cx.mg f_law_beginning_right.name=some (.ref fa)) {R:Result→Shared→Prop}
  (h:∀h' tk,iN K s.heap out a ls m h'→R (.ok (.ret (.bool true))) {s with heap:=h',toks:=tk}):codeAny K.M K.A (.call (.ref fa) ⟨[.ref a],[]⟩) R s:=by
 refine eS fun gG gH=>?_;obtain ⟨fa',FA,hcd⟩:=H.l1.d
 have e:fa'=fa:=by have:=FA.there;rw [hm] at this;cases this;rfl
 subst e
 obtain ⟨pT,bT,sT,fT,TD⟩:=H.told
 obtain ⟨e,t,p,r,x,y,s6,s7,s8,s9,s10,s11,w,s',hs',hw,ev⟩:=ZN (d:=0) hp (β:=List V×Fm) (k:=fun ρ=>bW (aT 58) glb afF _ ρ fun l ρ=>some (l,ρ)) (q:=fun _ _=>none)
 obtain ⟨p1,p2,p3,rfl⟩:=hs'.penL
 refine gH ?_;obtain ⟨u,v,rfl⟩:∃u v,w=.tup [u,v]:=by
  refine eS fun gG gH=>?_;obtain ⟨u,v,q,_⟩:=VK (d:=0) (t:=t) hw
  refine gH ?_;exact (bM u v q)
 obtain ⟨f82,F82⟩:=H.d82
 exact wY (d:=58) (ts:=[t1,t2]) H.T H.fn RM H.cas (t:=t1) (.head _) (fun u hu q=>NS H.ne (.head _) hu q) TD rfl rfl FA ae9.2 rfl (bM _ _ ⟨VI.1,VI.2,H.p1▸afH⟩) hcd H.l1.lam afJ pre ho (xs:=[t,.str 17,u,v]) (ev.trans rfl) rfl
  (fun A hh hu N RA=>TL (d:=26) (K:=(K.at A hh hu (aT 58) N (some a)).t0) H.cas rfl H.fn RA F82 hw) LO fun h' tk k1 k2 k3 k4=>h h' tk ⟨k1,k2,k3,_,hs',k4⟩
theorem aaC (H:xC K C t1 t2 c1 c2)(RM:dK K.A 62){s:Shared}{out:Addr→Prop}{a:Addr}(pre:cP K s.heap out (some a)){sl:List V}(ho:dB K.w.params (go s.heap out) s.heap a (.l sl)){m:Nat}(hp:iX sl (13+m))
  {low:List Env} {ls:List Addr} (LO:CQ K s.heap low ls a) {fa:Addr} (hm:K.cx.mg f_law_limits_right.name=some (.ref fa)) {R:Result→Shared→Prop}
  (h:∀h' tk,iN K s.heap out a ls m h'→R (.ok (.ret (.bool true))) {s with heap:=h',toks:=tk}):codeAny K.M K.A (.call (.ref fa) ⟨[.ref a],[]⟩) R s:=by
 refine eS fun gG gH=>?_;refine aD H.l2.d fun fa' FA hcd=>?_
 have e:fa'=fa:=by have:=FA.there;rw [hm] at this;cases this;rfl
 subst e
 refine FZ H.told fun pT bT sT fT TD=>?_
 refine VS (TH (d:=0) (m:=m) (hp.le (by lia)) (β:=List V×Fm) (q:=fun _ _=>none)) fun r n k u t b s9 s10 s11 s12 s1 hs1 ev=>?_
 refine bN (eI (d:=57) (m:=3) hs1 (by decide)) fun q s' hq pk hs'=>?_
 refine jX hs'.penL fun p1 p2 p3 aj8=>?_;subst aj8
 refine gH ?_;obtain ⟨e,he,hen⟩:∃e,jN[q]? =some e∧e∈jN:=⟨jN[q]'hq,List.getElem?_eq_getElem hq,List.getElem_mem hq⟩
 have ev2:bW (aT 58) glb afG (List V×Fm) [.l s1,.v r,.v n,.v k,.v u,.v t,.v b,.v eJ,.v eV,s9,s10,s11,s12] (fun l ρ=>some (l,ρ))
   =some ([t,.str 17,e,.int 0],[.l (penL p1 p2 p3),.v r,.v n,.v k,.v u,.v t,.v b,.v eJ,.v eV,s9,s10,s11,s12]):=by
  refine (?_:(Cn 59 83 [.l s1,.v (.int 3)]).bind _=_)
  rw [show Cn 59 83 [.l s1,.v (.int 3)]=_ from pk,aB]
  refine (?_:oU (.lst jN) (.int (.ofNat q)) _=_)
  rw [dY he (by lia)];rfl
 refine aR H.d80 fun f80 F80=>?_
 refine aR H.d81 fun f81 F81=>?_
 exact wY (d:=58) (ts:=[t1,t2]) H.T H.fn RM H.cas (t:=t2) (.tail _ (.head _)) (fun u hu q=>NS H.ne (.tail _ (.head _)) hu q) TD rfl rfl FA afA.2 rfl (bM _ _ ⟨VJ.1,VJ.2,H.p2▸afI⟩) hcd H.l2.lam afK pre ho (xs:=[t,.str 17,e,.int 0]) ((ev _).trans ev2) rfl
  (fun A hh hu N RA=>TN (d:=25) (K:=(K.at A hh hu (aT 58) N (some a)).t0) H.cas rfl H.fn RA F80 F81 hen) LO fun h' tk k1 k2 k3 k4=>h h' tk ⟨k1,k2,k3,_,hs',k4⟩
end
section
variable {K:Ct}{ns:dL}{Γ:cZ}{B:cU K ns Γ}{σ:Pt}
theorem NU {L:Addr}{h h':Heap}(hn:∀m,h.Ns L m→h'.Ns L m){p:Pl}(hp:∃x,p=.loc L x){v:Value}(r:rd h p v):rd h' p v:=by
 refine aR hp fun x aj1=>?_;subst aj1
 refine aD r fun m n e=>?_
 exact ⟨m,hn m n,e⟩
theorem NV (S:dZ B.toBs σ){L a:Addr}(hpl:∀p∈B.pls,∃x,p=.loc L x)(hout:∀b,B.out b→b<K.N)(io:K.io=none){n:Nat}{sl0:List V}(hn:σ.own[n]? =some (some a))(hρ:σ.ρ[n]? =some (.l sl0))(ho:∀b,some b∈σ.own→b=a){m:Nat}{h':Heap}{tk:Nat}(P:iN K σ.s.heap (Xs B.toBs σ.own) a [L] m h'):
  ∃sl,iX sl m∧dZ B.toBs ⟨σ.own,σ.ρ.set n (.l sl),{σ.s with heap:=h',toks:=tk}⟩:=by
 refine aD P.own fun sl hp OO=>?_
 have hL:∀m,σ.s.heap.Ns L m→h'.Ns L m:=P.ns L (.head _)
 have xa:Xs B.toBs σ.own a:=.inr (.inr (List.mem_of_getElem? hn))
 have xL:∀b,b∈[L]→Xs B.toBs σ.own b:=fun b hb=>by
  rw [List.mem_singleton] at hb
  subst hb
  cases e:B.pls with
  |nil=>exact absurd e B.ne
  |cons p l=>
   refine aR (hpl p (e▸.head _)) fun x q=>?_
   exact .inr (.inl ⟨p,e▸.head _,q▸rfl⟩)
 have kv:∀b o,gv B.toBs σ.own σ.s.heap b o→gv B.toBs σ.own h' b o:=fun b o g=>⟨P.keep b o g.1 (fun t=>g.2 (.inl (B.tbN b t).2.1)) (fun e=>g.2 (e▸xa)) fun e=>g.2 (xL b e),g.2⟩
 refine ⟨sl,hp,fun b o e=>P.keep b o (S.bs b o e) (fun t=>(B.bas b o e).2.1 (B.tbN b t).2.1) (fun q=>?_) fun q=>?_,fun b x=>.inl (hout b x),S.ow,by refine (Eq.symm List.length_set)▸?_;exact S.lenP,by refine (Eq.symm List.length_set)▸?_;exact S.lenO,fun i p s' oa h1 h2 h3=>?_,S.sep,S.dis,P.ti,S.own0⟩
 ·subst q
  rcases S.ow n b hn with ⟨w,_⟩|⟨_,w⟩
  ·exact absurd (B.bas b o e).1 (Nat.not_lt.mpr w)
  ·exact nomatch (io.symm.trans w)
 ·obtain ⟨w,hw⟩:∃p∈B.pls,p.addr=b:=by
   rw [List.mem_singleton] at q
   subst q
   cases e:B.pls with
   |nil=>exact absurd e B.ne
   |cons p l=>
    refine aR (hpl p (e▸.head _)) fun x q=>?_
    exact ⟨p,.head _,q▸rfl⟩
  exact absurd (B.bas b o e).1 (Nat.not_lt.mpr (hw.2▸(B.pl w hw.1).1))
 ·have hpl':=hpl p (List.mem_of_getElem? h1)
  by_cases e:i=n
  ·subst e
   rw [List.getElem?_set_self (by exact (List.getElem?_eq_some_iff.mp hρ).1)] at h2
   cases h2
   rw [hn] at h3
   cases h3
   exact ⟨NU hL hpl' (S.slot i p _ _ h1 hρ hn).1,OO.move (fun b o g=>g) fun o g=>g⟩
  ·rw [List.getElem?_set_ne (fun q=>e q.symm)] at h2
   have k:=S.slot i p s' oa h1 h2 h3
   cases oa with
   |some b=>exact absurd (S.dis i n a (by refine (Eq.symm h3)▸?_;exact (Eq.symm (ho b (List.mem_of_getElem? h3)))▸rfl) hn) e
   |none=>
    cases s' with
    |un=>
     refine aR hpl' fun x aj2=>?_;subst aj2
     refine aR ((k:there σ.s.heap (.loc L x))) fun m q=>?_
     exact ⟨m,hL m q⟩
    |v x=>exact aD k fun pv r q=>⟨pv,NU hL hpl' r,q.mono kv⟩
    |l _=>exact k.elim
    |d _=>exact k.elim
end
structure uO (nmF:Str)(pe:Expr):Prop where
 ex:∃p1 p2 p3,pe=.Call (.Name nmF p1) [.Name "pen" p2] [] p3
theorem uP {K:Ct}{ns:dL}{Γ:cZ}{B:cU K ns Γ}{σ:Pt}{f:Nat}{fn:Fn}{pe:Expr}(CA:uO fn.name pe)(hf:nS[f]? =some fn)(hg:gK ns fn.name=true)(hΓ:Γ[1]? =some (some ("pen" :Str))) (S:dZ B.toBs σ) {L a:Addr} {sl:List V} (hn:σ.own[1]? =some (some a)) (hρ:σ.ρ[1]? =some (.l sl))
  {Q:Value→Shared→Prop} {E:Value→Shared→Prop} {m:Nat}
  (hc:∀fa,K.cx.mg fn.name=some (.ref fa)→cP K σ.s.heap (Xs B.toBs σ.own) (some a)→dB K.w.params (go σ.s.heap (Xs B.toBs σ.own)) σ.s.heap a (.l sl)→∀R:Result→Shared→Prop,(∀h' tk,iN K σ.s.heap (Xs B.toBs σ.own) a [L] m h'→R (.ok (.ret (.bool true))) {σ.s with heap:=h',toks:=tk})→codeAny K.M K.A (.call (.ref fa) ⟨[.ref a],[]⟩) R σ.s)
  (hq:∀h' tk,iN K σ.s.heap (Xs B.toBs σ.own) a [L] m h'→Q (.bool true) {σ.s with heap:=h',toks:=tk}):wpAny K.M K.A (eval pe B.env) Q E σ.s:=by
 refine eS fun gG gH=>?_;refine jX CA.ex fun p1 p2 p3 aj3=>?_;subst aj3
 refine dA (K.cx.fns f fn hf) fun fa o fd hm hb hd=>?_
 refine aF (dE hg) fun hg1 hg2=>?_
 refine bN (S.get hρ) fun p oa q1 q2 k=>?_
 refine gH ?_;rw [hn] at q2;cases q2
 refine Call_Name rfl (cY K.cx B.ok (B.glb _ hg1) (B.nsg S) hm ?_ hg2)
 exact Calls.callWith_function (o:=o) (fd:=fd) (Calls.evalArgs_plain (Calls.spliced_cons (B.ok.evalName hΓ q1 k.1 (Calls.spliced_nil ⟨⟨(S.base hb).1,hd⟩,wpAny_call (hc fa hm (pH S fun b e=>Option.some.inj e▸List.mem_of_getElem? hn) k.2 _ fun h' tk P=>hq h' tk P)⟩))))
structure VM (st:Stmt):Prop where
 ex:∃e1 e2 e3 p1 p2,st=.Return (some (.BoolOp .And [e1,e2,e3] p1)) p2∧uO f_law_beginning_right.name e1∧uO f_law_limits_right.name e2∧uO f_law_beginning_right.name e3
noncomputable def mF:List Expr:=xl (vs (oM 154 1)).v
noncomputable def ca (e:Expr)(n:Str):Expr:=.Call (.Name n (xp (x1 e))) [.Name "pen" (xp (l1 (xl e)))] [] (xp e)
theorem aaD:VM (oM 154 1):=⟨(ei5 (l1 mF) (l2 mF) (l2 mF.tail) (xp (vs (oM 154 1)).v) ((vs (oM 154 1)).p) ⟨by kernel_rfl,⟨(gE _ _ _ (by kernel_rfl:l1 mF=ca (l1 mF) f_law_beginning_right.name))⟩,⟨(gE _ _ _ (by kernel_rfl:l2 mF=ca (l2 mF) f_law_limits_right.name))⟩,⟨(gE _ _ _ (by kernel_rfl:l2 mF.tail=ca (l2 mF.tail) f_law_beginning_right.name))⟩⟩)⟩
noncomputable def NW:List S:=[cK f_law.body 0]
theorem VN:(cO 154).b=(cO 154).b.take 1++[oM 154 1]∧∀K':Ct,cA K'→K'.io=none→nQ K' (cJ 154).names (f_law.vars.map some) NW ((cO 154).b.take 1):=⟨by kernel_rfl,fun K' HC hio=>oN (prA HC false (fun _=>hio) (cJ 154).names (f_law.vars.map some) NW ((cO 154).b.take 1)) (by kernel_rfl)⟩
theorem g91:gK (cJ 154).names f_law_beginning_right.name=true:=by kernel_rfl
theorem g92:gK (cJ 154).names f_law_limits_right.name=true:=by kernel_rfl
theorem afM:f_law.vars.map (fun x=>(cJ 154).names.lookup x)=[some .local,some .local]:=by kernel_rfl
theorem FP (l:List Int):∃S,sR (l.map .int)=some S:=by
 induction l with
 |nil=>exact ⟨0,rfl⟩
 |cons a l ih=>
  obtain ⟨S,h⟩:=ih
  exact ⟨a+S,by rw [List.map_cons,sR,h];rfl⟩
theorem NX (l:List Int)(hl:l.length≤1000):∃sl,iX sl 37∧aU (aT 1) glb NW Fm [.v (.lst (l.map .int)),.un] some (fun _ _=>none)=some [.v (.lst (l.map .int)),.l sl]:=by
 refine aR (FP (l.take 40)) fun S hS=>?_
 have h40:(l.take 40).length≤40:=List.length_take_le _ _
 have hm:((l.take 40).map V.int).length≤40:=by rw [List.length_map];exact h40
 have hc:kI (.lst (l.map .int)) (.int 40)=some (.lst ((l.take 40).map .int)):=by
  refine (if_pos ⟨by decide,?_⟩).trans (by rw [List.map_take];rfl)
  rw [List.length_map];exact Nat.le_trans hl (by decide)
 refine ⟨[.lst ((l.take 40).map .int),.int (.ofNat 0),.int (Int.fmod S 997)],(gE _ 0 _ ⟨rfl,h40,by decide⟩),?_⟩
 refine (?_:(kI (.lst (l.map .int)) (.int 40)).bind _=_)
 rw [hc]
 refine (?_:cond (Nat.ble ((l.take 40).map V.int).length 1000) ((kI (.lst (l.map .int)) (.int 40)).bind _) none=_)
 rw [cS (Nat.le_trans hm (by decide)),hc]
 refine (?_:cond (Nat.ble ((l.take 40).map V.int).length jA) ((sR ((l.take 40).map V.int)).bind _) none=_)
 rw [cS (Nat.le_trans hm (by decide)),hS]
 refine (?_:lE (Int.fmod S 997) (fun z=>some [aE.v (.lst (l.map .int)),.l [.lst ((l.take 40).map .int),.int (.ofNat 0),.int z]])=_)
 rw [eA]
theorem dK.le {A:Around}{d e:Nat}(h:dK A e)(l:d≤e):dK A d:=⟨h.handled,Nat.le_trans (Nat.add_le_add_left l _) h.depth,Nat.le_trans (Nat.add_le_add_right (Nat.add_le_add_left (Nat.mul_le_mul_left _ l) _) _) h.units⟩
section
variable {K:Ct}{C:Addr}{t1 t2:eW}{c1 c2:Addr}
theorem xC.at (H:xC K C t1 t2 c1 c2){A:Around}{hh hu}{D:CF}{N:Nat}{io:Option Addr}:xC (K.at A hh hu D N io) C t1 t2 c1 c2:=
 ⟨H.T,H.ne,H.fn,H.cas,H.told,⟨H.l1.d,⟨H.l1.lam.hd,H.l1.lam.ne,H.l1.lam.bi,H.l1.lam.qual⟩⟩,H.p1,⟨H.l2.d,⟨H.l2.lam.hd,H.l2.lam.ne,H.l2.lam.bi,H.l2.lam.qual⟩⟩,H.p2,H.d82,H.d80,H.d81⟩
structure CS {ns:dL}{Γ:cZ}(B:cU K ns Γ)(L a:Addr)(x:V):Prop where
 pls:∀p∈B.pls,∃y,p=.loc L y
 out:∀b,B.out b→b<K.N
 io:K.io=none
 fr:K.A.frames=some [B.env]
 frame:B.env.frame=some L
 hL:K.N≤L
structure sM {ns:dL}{Γ:cZ}(B:cU K ns Γ)(σ:Pt)(a:Addr)(m:Nat):Prop where
 S:dZ B.toBs σ
 own:σ.own[1]? =some (some a)
 on:∀b,some b∈σ.own→b=a
 pen:∃sl,σ.ρ[1]? =some (.l sl)∧iX sl m
theorem uQ {ns:dL}{Γ:cZ}{B:cU K ns Γ}{L a:Addr}{x:V}{m:Nat}(F:CS B L a x){σ:Pt}(T:sM B σ a m):CQ K σ.s.heap [B.env] [L] a:=by
 have hp:∃y,Pl.loc L y∈B.pls:=by
  cases e:B.pls with
  |nil=>exact absurd e B.ne
  |cons p l=>
   refine aR (F.pls p (e▸.head _)) fun y q=>?_
   exact ⟨y,q▸.head _⟩
 refine eS fun gG gH=>?_;refine aR hp fun y hp=>?_
 have hns:∃m,σ.s.heap.Ns L m:=T.S.plLive hp
 refine aD T.pen fun sl hρ _=>?_
 refine bN (T.S.get hρ) fun p oa q1 q2 k=>?_
 rw [T.own] at q2;cases q2
 refine aF k fun _ aj4=>?_;obtain ⟨vs,n,hg,_⟩:=aj4
 refine gH ?_;refine ⟨F.fr,fun env he=>?_,fun env he b e=>?_,fun l hl=>?_⟩
 ·rw [List.mem_singleton] at he
  subst he
  refine aR hns fun m n=>?_
  exact ⟨by refine (Eq.symm B.ok.kind)▸?_;decide,L,m,F.frame,n⟩
 ·rw [List.mem_singleton] at he
  subst he
  rw [F.frame] at e;cases e;exact .head _
 ·rw [List.mem_singleton] at hl
  subst hl
  refine ⟨fun t=>(B.pl _ hp).2 (B.tbN _ t).2.1,fun e=>wX hns hg nofun e.symm,?_,hns⟩
  cases q:K.cx.bs.get? l with
  |none=>rfl
  |some o=>exact absurd (B.bas _ _ q).1 (Nat.not_lt.mpr (B.pl _ hp).1)
theorem qH {ns:dL}{Γ:cZ}{B:cU K ns Γ}{L a:Addr}{x:V}{m m':Nat}(F:CS B L a x){σ:Pt}(T:sM B σ a m){h':Heap}{tk:Nat}(P:iN K σ.s.heap (Xs B.toBs σ.own) a [L] m' h'):
  ∃σ',sM B σ' a m'∧σ'.s={σ.s with heap:=h',toks:=tk}∧σ'.own=σ.own:=by
 refine aD T.pen fun sl hρ _=>?_
 refine aD (NV (tk:=tk) T.S F.pls F.out F.io T.own hρ T.on P) fun sl' hp S'=>?_
 exact ⟨_,⟨S',T.own,T.on,sl',List.getElem?_set_self (List.getElem?_eq_some_iff.mp hρ).1,hp⟩,rfl,rfl⟩
theorem TO {ns:dL}{Γ:cZ}{B:cU K ns Γ}{L a:Addr}{x:V}(H:xC K C t1 t2 c1 c2)(RM:dK K.A 62)(g1:gK ns f_law_beginning_right.name=true)(g2:gK ns f_law_limits_right.name=true)(hΓ:Γ[1]? =some (some ("pen" :Str))) (F:CS B L a x) {σ:Pt} (T:sM B σ a 37) {st:Stmt} (RA:VM st)
  {Q:Flow→Shared→Prop} {E:Value→Shared→Prop} (h:∀σ',sM B σ' a 0→Up σ.s σ'.s→σ'.own=σ.own→(∀b o,σ.s.heap.get? b=some o→¬K.T.tb b→b≠a→b≠L→σ'.s.heap.get? b=some o)→Q (.ret (.bool true)) σ'.s):wpAny K.M K.A (exec st B.env) Q E σ.s:=by
 refine aa1 RA.ex fun e1 e2 e3 p1 p2 aj5 A1 A2 A3=>?_;subst aj5
 have kp:∀{σ:Pt} {m:Nat} {h':Heap},iN K σ.s.heap (Xs B.toBs σ.own) a [L] m h'→∀b o,σ.s.heap.get? b=some o→¬K.T.tb b→b≠a→b≠L→h'.get? b=some o:=fun P b o g n1 n2 n3=>P.keep b o g n1 n2 fun q=>n3 (List.mem_singleton.mp q)
 refine aD T.pen fun sl hρ hp=>?_
 refine wpAny_Return_some (BoolOp_and (uP (L:=L) A1 (f:=91) rfl g1 hΓ T.S T.own hρ (m:=25) (fun fa hm pre ho R hR=>NT H RM pre ho hp (uQ F T) hm hR) fun h1 tk1 P1=>wpAny_truthy_bool ?_))
 refine eM (qH (tk:=tk1) F T P1) fun σ1 T1 s1 o1=>?_
 refine aD T1.pen fun sl1 hρ1 hp1=>?_
 refine (Eq.symm (if_pos rfl))▸?_;refine s1▸?_
 refine BoolOp_and (uP (L:=L) A2 (f:=92) rfl g2 hΓ T1.S T1.own hρ1 (m:=12) (fun fa hm pre ho R hR=>aaC H RM pre ho hp1 (uQ F T1) hm hR) fun h2 tk2 P2=>wpAny_truthy_bool ?_)
 refine eM (qH (tk:=tk2) F T1 P2) fun σ2 T2 s2 o2=>?_
 refine aD T2.pen fun sl2 hρ2 hp2=>?_
 refine (Eq.symm (if_pos rfl))▸?_;refine s2▸?_
 refine BoolOp_one (uP (L:=L) A3 (f:=91) rfl g1 hΓ T2.S T2.own hρ2 (m:=0) (fun fa hm pre ho R hR=>NT H RM pre ho hp2 (uQ F T2) hm hR) fun h3 tk3 P3=>?_)
 refine eM (qH (tk:=tk3) F T2 P3) fun σ3 T3 s3 o3=>?_
 refine s3▸?_
 have e1:σ1.s.heap=h1:=by exact (Eq.symm s1)▸rfl
 have e2:σ2.s.heap=h2:=by exact (Eq.symm s2)▸rfl
 have e3:σ3.s.heap=h3:=by exact (Eq.symm s3)▸rfl
 refine h σ3 T3 ?_ (o3.trans (o2.trans o1)) fun b o g n1 n2 n3=>?_
 ·unfold Up
  refine (Eq.symm s3)▸?_;refine (Eq.symm s2)▸?_;exact (Eq.symm s1)▸rfl
 ·refine (Eq.symm e3)▸?_
  exact kp P3 b o (by refine (Eq.symm e2)▸?_;exact kp P2 b o (by refine (Eq.symm e1)▸?_;exact kp P1 b o g n1 n2 n3) n1 n2 n3) n1 n2 n3
theorem TP (H:xC K C t1 t2 c1 c2)(RM:dK K.A 64)(hfr:K.A.frames=some []){fa:Addr}(FA:iS K.cx.bs K.cx.mg f_law.name (iM 154) (cO 154).b (cJ 154) fa){s:Shared}{out:Addr→Prop}(pre:cP K s.heap out none){v:Value}{l:List Int}(hl:l.length≤1000)(hv:Rp K.w.params (go s.heap out) v (.lst (l.map .int)))
  {R:Result→Shared→Prop} (h:∀h' tk,(∀b o,s.heap.get? b=some o→¬K.T.tb b→h'.get? b=some o)→(K.T.inv fun b o=>h'.get? b=some o∧(K.T.tb b∨¬out b))→R (.ok (.ret (.bool true))) {s with heap:=h',toks:=tk}):codeAny K.M K.A (.call (.ref fa) ⟨[v],[]⟩) R s:=by
 refine gA (io:=none) (slots:=[.v (.lst (l.map .int))]) RM.dl FA afB.2 rfl pre ⟨[_],rfl,bJ.cons hv bJ.nil⟩ (aT 1) (fun env=>⟨RM.handled,(RM.deeper env).hu⟩) fun cd _ B σ EN=>?_
 have RI:=RM.deeper (envOfC f_law.name (cJ 154) s.heap.objs.size fa cd)
 have hC:cA (K.at (K.A.deeper (envOfC f_law.name (cJ 154) s.heap.objs.size fa cd)) RM.handled RI.hu (aT 1) s.heap.objs.size none):=uJ 1 H.fn (RI.le (by decide)) rfl
 refine aD (NX l hl) fun sl hp ev=>?_
 refine (Eq.symm VN.1)▸?_
 refine qE (VN.2 _ hC rfl) EN.S (by rw [EN.ρ];exact ev) fun σ2 G2 k2=>?_
 have hρ:σ2.ρ=[.v (.lst (l.map .int)),.l sl]:=Option.some.inj k2
 have e1:σ2.ρ[1]? =some (.l sl):=by refine (Eq.symm hρ)▸?_;rfl
 refine bN (G2.S.get e1) fun p oa q1 q2 k=>?_
 obtain ⟨a,rfl⟩:∃a,oa=some a:=by
  cases oa with
  |none=>exact k.elim
  |some a=>exact ⟨a,rfl⟩
 have on:∀b,some b∈σ2.own→b=a:=fun b hb=>by
  refine aR (List.mem_iff_getElem?.mp hb) fun i hi=>?_
  have hlt:=(List.getElem?_eq_some_iff.mp hi).1
  rw [G2.S.lenO,hρ] at hlt
  match i,hlt,hi with
  |0,_,hi=>
   refine bN (G2.S.get (i:=0) (sl:=.v (.lst (l.map .int))) (by refine (Eq.symm hρ)▸?_;rfl)) fun p' oa' r1 r2 k'=>?_
   rw [hi] at r2;cases r2
   exact k'.2.elim
  |1,_,hi=>rw [q2] at hi;cases hi;rfl
 have hpl:∀p∈B.pls,∃y,p=.loc s.heap.objs.size y:=fun p hp=>by
  rw [EN.pls] at hp
  refine aD (List.mem_map.mp hp) fun x hx aj6=>?_;subst aj6
  have:(cJ 154).names.lookup x=some .local:=by
   have hx':=List.mem_map_of_mem (f:=fun x=>(cJ 154).names.lookup x) hx
   rw [afM] at hx'
   simpa using hx'
  exact ⟨x,if_pos this⟩
 have T:sM B σ2 a 37:=⟨G2.S,q2,on,sl,e1,hp⟩
 have F:CS B s.heap.objs.size a (.none):=⟨hpl,fun b x=>pre.lt (EN.out▸x),rfl,by refine (Eq.symm EN.env)▸?_;exact Around.frames_deeper hfr,by refine (Eq.symm EN.env)▸?_;rfl,Nat.le_refl _⟩
 refine wpAny_execs_cons (TO H.at (RI.le (by decide)) g91 g92 rfl F T aaD fun σ3 T3 u3 o3 kp=>?_)
 have hN:∀b o,s.heap.get? b=some o→b<s.heap.objs.size:=fun b o g=>Heap.lt_size g
 have ha:s.heap.objs.size≤a:=by
  rcases G2.S.ow 1 a q2 with ⟨w,_⟩|⟨w,_⟩
  ·exact w
  ·exact absurd w (by decide)
 have kk:∀b o,s.heap.get? b=some o→¬K.T.tb b→σ2.s.heap.get? b=some o:=fun b o g t=>G2.w.k b o (EN.keep b o g) t (fun ⟨p,hp,e⟩=>absurd (hN b o g) (Nat.not_lt.mpr (e▸(B.pl p hp).1))) fun m=>by
  rw [EN.own] at m
  exact (List.mem_cons.mp m).elim (fun e=>nomatch e) fun m=>nomatch (List.mem_replicate.mp m).2
 have:=h σ3.s.heap σ3.s.toks (fun b o g t=>kp b o (kk b o g t) t (fun e=>absurd (hN b o g) (Nat.not_lt.mpr (e▸ha))) fun e=>absurd (hN b o g) (Nat.not_lt.mpr (Nat.le_of_eq e.symm))) (K.T.mono _ _ (fun b o g=>⟨g.1,g.2.imp id fun n x=>n (.inl (EN.out▸x))⟩) T3.S.ti)
 refine (Eq.symm (show σ3.s={s with heap:=σ3.s.heap,toks:=σ3.s.toks} from (EN.up.trans G2.u).trans u3))▸?_
 exact this
end
noncomputable def hid:List Addr:=[843,836,1]
noncomputable def xD (h:Heap):Heap:=hideAll h hid
theorem hH {h:Heap}{a:Addr}{o:Obj}(g:h.get? a=some o)(n:hid.contains a=false):(xD h).get? a=some o:=hideAll_get _ g fun m=>by rw [List.contains_iff_mem.mpr m] at n;cases n
theorem NY {h:Heap}{a:Addr}{o:Obj}(g:(xD h).get? a=some o):h.get? a=some o∧hid.contains a=false:=⟨of_hideAll _ g,by
 cases e:hid.contains a with
 |false=>rfl
 |true=>exact nomatch g.symm.trans (hideAll_none hid (List.contains_iff_mem.mp e))⟩
noncomputable def eK (K:Frag)(a:Addr):Obj:=(K.lookup a).getD (tabObj #[])
noncomputable def xE (v:Value):Addr:=match v with
 |.ref a=>a
 |_=>0
noncomputable def jO (K:Frag)(x:Str):Addr:=match nsIn K mainGlobals x with
 |some (some v)=>xE v
 |_=>0
noncomputable def TQ (o:Obj):FuncData:=match o.data with
 |.func fd=>fd
 |_=>Calls.docDef "" ⟨[],[],none,[],[],none,[]⟩ [] ⟨.function,[],false,false,[]⟩ .none .none .none
noncomputable def kFs (o:Obj):Array Value:=match o.data with
 |.fields vs=>vs
 |_=> #[]
noncomputable def afN (o:Obj):List Value:=match o.data with
 |.seq vs _=>vs.toList
 |_=>[]
noncomputable def FQ (v:Value):Nat:=match v with
 |.str _ t=>t
 |.int _ t=>t
 |_=>0
noncomputable def kCd (o:Obj):ClassData:=match o.data with
 |.cls c=>c
 |_=>⟨"",[],[],0, "",true,[],[],false,none,false⟩
noncomputable def cdL (K:Frag)(f c:Addr):Value×Option Obj×Data×Bool×Bool:=((TQ (eK K f)).code,K.lookup c,(eK K c).data,hid.contains f,hid.contains c)
noncomputable def cdR (K:Frag)(f c:Addr):Value×Option Obj×Data×Bool×Bool:=(.ref c,some (eK K c),.fields (kFs (eK K c)),false,false)
noncomputable def kC (K:Frag)(f:Addr):Addr:=xE (TQ (eK K f)).code
noncomputable def kQ (K:Frag)(c:Addr):Option Value:=(kFs (eK K c))[1]?
noncomputable def fnL (K:Frag)(x:Str)(S:Scope):(Option (Option Value)×Option Obj×Data)×(Value×Option Obj×Data×Bool×Bool)×Option Value×Bool×Bool×ScopeKind:=
 ((nsIn K mainGlobals x,K.lookup (jO K x),(eK K (jO K x)).data),cdL K (jO K x) (kC K (jO K x)),kQ K (kC K (jO K x)),S.isCoroutine,S.isGenerator,S.kind)
noncomputable def fnR (K:Frag)(x:Str)(p:Arguments)(b:List Stmt)(S:Scope):(Option (Option Value)×Option Obj×Data)×(Value×Option Obj×Data×Bool×Bool)×Option Value×Bool×Bool×ScopeKind:=
 ((some (some (.ref (jO K x))),some (eK K (jO K x)),.func (Calls.docDef x p b S (TQ (eK K (jO K x))).pyModule (TQ (eK K (jO K x))).code (TQ (eK K (jO K x))).doc)),cdR K (jO K x) (kC K (jO K x)),some (.str x (FQ ((kQ K (kC K (jO K x))).getD .none))),false,false,.function)
section
variable {K:Frag}{h:Heap}{mg:Str→Option Value}{x:Str}{p:Arguments}{b:List Stmt}{S:Scope}
theorem NZ {f c:Addr}{q:Str}{t:Nat}(X:K.In h)(e:cdL K f c=cdR K f c)(hq:kQ K c=some (.str q t)):(xD h).CodeRec (TQ (eK K f)).code q∧hid.contains f=false:=by
 refine eS fun gG gH=>?_;refine aF (Prod.mk.inj e) fun e1 e=>?_
 refine aF (Prod.mk.inj e) fun e2 e=>?_
 refine aF (Prod.mk.inj e) fun e3 e=>?_
 refine aF (Prod.mk.inj e) fun e4 e5=>?_
 refine gH ?_;exact ⟨(zZ c _ _ t ⟨e1,hH (X _ _ e2) e5,e3,hq⟩),e4⟩
theorem CT (X:K.In h)(G:h.Ns mainGlobals mg)(e:fnL K x S=fnR K x p b S):iS (xD h) mg x p b S (jO K x):=by
 obtain ⟨⟩:=Prod.mk.inj e
 rename_i ea e
 refine eS fun gG gH=>?_;refine aF (Prod.mk.inj ea) fun e1 ea=>?_
 refine aF (Prod.mk.inj ea) fun e2 e3=>?_
 refine aF (Prod.mk.inj e) fun ec e=>?_
 refine aF (Prod.mk.inj e) fun eq e=>?_
 refine aF (Prod.mk.inj e) fun s1 e=>?_
 refine aF (Prod.mk.inj e) fun s2 s3=>?_
 refine aF (NZ X ec eq) fun r n=>?_
 refine gH ?_;exact ⟨mg_of X G e1,(zZ _ _ _ _ ⟨hH (X _ _ e2) n,e3,r⟩),s1,s2,s3⟩
theorem TR (X:K.In h)(e:fnL K x S=fnR K x p b S):∀o pm cd doc,(xD h).get? (jO K x)=some o→o.data=.func (Calls.docDef x p b S pm cd doc)→cd=.ref (kC K (jO K x)):=fun o pm cd doc g d=>by
 obtain ⟨⟩:=Prod.mk.inj e
 rename_i ea e
 refine aF (Prod.mk.inj ea) fun e1 ea=>?_
 refine aF (Prod.mk.inj ea) fun e2 e3=>?_
 refine aF (Prod.mk.inj e) fun ec e=>?_
 have e4:=(Prod.mk.inj ec).1
 rw [Option.some.inj ((NY g).1.symm.trans (X _ _ e2)),e3] at d
 injection d with d
 have d:=congrArg FuncData.code d
 exact d.symm.trans e4
end
noncomputable def jl:List (Nat×Fn):=[(3,f_gcd),(10,f_rat),(11,f_radd),(12,f_rsub),(13,f_rmul),(14,f_rdiv),(15,f_rneg),(16,f_rinv),(17,f_rpower),(18,f_rcompare),(22,f_ginsert),(23,f_gadd),(24,f_poly_sum),(25,f_kind_product),(26,f_gmul),(27,f_kind_compare),(28,f_fastest),(30,f_gratio_power),(32,f_growth_of),(33,f_growth_of_other),(34,f_far_limit),(36,f_cut),(37,f_sadd),(39,f_mixed),(40,f_smul),(41,f_sinverse),(44,f_need_begin),(45,f_sexp),(47,f_ssin_cos),(48,f_ssin),(52,f_swhole_power),(54,f_lplain),(55,f_lmoved),(56,f_ladd),(57,f_lmul),(58,f_ltrim),(59,f_linverse),(60,f_lpower),(61,f_lcut),(65,f_from_zero),(66,f_of_call),(68,f_of_power),(69,f_of_term),(70,f_laurent_of),(71,f_series_of),(76,f_from_begin),(77,f_limit_near),(78,f_mirrored),(79,f_limit_far),(80,f_limit),(85,f_t_num),(86,f_t_sym),(87,f_t_sum),(88,f_t_prod),(89,f_t_pow),(90,f_t_minus),(91,f_is_num),(92,f_num_of),(93,f_is_whole_num),(96,f_sign_between),(97,f_compare_values),(98,f_bare_factors),(99,f_front_value),(100,f_base_and_exponent),(101,f_compare_rows),(102,f_compare_exponents),(103,f_compare_bases),(104,f_compare_factors),(105,f_compare_terms),(106,f_merged_terms),(107,f_sort_terms),(117,f_number_term),(118,f_number_and_rest),(119,f_with_number),(120,f_flat_parts),(121,f_gathered_sum),(122,f_as_power),(123,f_gathered_product),(124,f_power_of),(134,f_simplify),(138,f_limit_end),(139,f_limit_term),(140,f_taylor_term),(143,f_law_pick),(144,f_law_ratio),(145,f_law_plus),(146,f_law_raised),(147,f_law_term),(148,f_law_value),(149,f_law_choose),(150,f_law_beginning),(152,f_law_beginning_right),(153,f_law_limits_right),(154,f_law)]
theorem aaE:jl.map (·.2)=nS:=rfl
inductive FR {α:Type}(P:α→Prop):List α→Prop
 |nil:FR P []
 |cons {a l}:P a→FR P l→FR P (a::l)
theorem FR.mem {α:Type}{P:α→Prop}{l:List α}(h:FR P l):∀a∈l,P a:=by
 induction h with
 |nil=>exact fun _ m=>nomatch m
 |cons p _ ih=>exact fun a m=>(List.mem_cons.mp m).elim (fun e=>e▸p) (ih a)
theorem afO:FR (fun p=>aQ p.1 p.2) jl:=.cons fo0 (.cons fo1 (.cons fo2 (.cons fo3 (.cons fo4 (.cons fo5 (.cons fo6 (.cons fo7 (.cons fo8 (.cons fo9 (.cons anV (.cons anW (.cons anX (.cons anY (.cons anZ (.cons an0 (.cons an1 (.cons an2 (.cons an3 (.cons an4 (.cons an5 (.cons an6 (.cons an7 (.cons an8 (.cons an9 (.cons aoA (.cons aoB (.cons aoC (.cons aoD (.cons aoE (.cons aoF (.cons aoG (.cons aoH (.cons aoI (.cons aoJ (.cons aoK (.cons aoL (.cons aoM (.cons aoN (.cons aoO (.cons aoP (.cons aoQ (.cons aoR (.cons aoS (.cons aoT (.cons aoU (.cons aoV (.cons aoW (.cons aoX (.cons aoY (.cons aoZ (.cons ao0 (.cons ao1 (.cons ao2 (.cons ao3 (.cons ao4 (.cons ao5 (.cons ao6 (.cons ao7 (.cons ao8 (.cons ao9 (.cons apB (.cons apC (.cons apD (.cons apE (.cons apF (.cons apG (.cons apH (.cons apI (.cons apJ (.cons apK (.cons apL (.cons apM (.cons apN (.cons apO (.cons apP (.cons apQ (.cons apR (.cons apS (.cons apT (.cons ae6 (.cons ae7 (.cons ae8 (.cons apU (.cons apV (.cons apW (.cons apX (.cons apY (.cons apZ (.cons ap0 (.cons ap1 (.cons ae9 (.cons afA (.cons afB (.nil))))))))))))))))))))))))))))))))))))))))))))))))))))))))))))))))))))))))))))))))))))))))))))))
noncomputable def afP (K:Frag):=jl.map fun p=>fnL K p.2.name (cJ p.1)
noncomputable def afQ (K:Frag):=jl.map fun p=>fnR K p.2.name (iM p.1) (cO p.1).b (cJ p.1)
theorem uR {K:Frag}{h:Heap}{mg:Str→Option Value}(X:K.In h)(G:h.Ns mainGlobals mg)(e:afP K=afQ K):∀p∈jl,iS (xD h) mg p.2.name (iM p.1) (cO p.1).b (cJ p.1) (jO K p.2.name)∧qX p.2 (iM p.1) (cO p.1).b (cJ p.1)∧
  ∀o pm cd doc,(xD h).get? (jO K p.2.name)=some o→o.data=.func (Calls.docDef p.2.name (iM p.1) (cO p.1).b (cJ p.1) pm cd doc)→cd=.ref (kC K (jO K p.2.name)):=fun p hp=>
 have q:=List.map_inj_left.mp e p hp
 ⟨CT X G q,(afO.mem p hp).2,TR X q⟩
theorem VO {f:Nat}{fn:Fn}(e:nS[f]? =some fn):∃j,(j,fn)∈jl:=by
 rw [←aaE,List.getElem?_map] at e
 refine aD (Option.map_eq_some_iff.mp e) fun aj7 h q=>?_;obtain ⟨j,fn'⟩:=aj7
 cases q
 exact ⟨j,List.mem_of_getElem? h⟩
abbrev Clm:=(Value×Option Obj×Bool)×(Value×Option Obj×Bool)
noncomputable def noC:List Clm:=[((.none,none,false),(.none,none,true))]
noncomputable def cls (f:V→Value→List Clm):List V→List Value→List Clm
 |[],vs=>match vs with
  |[]=>[]
  |_::_=>noC
 |y::l,vs=>match vs with
  |[]=>noC
  |w::ws=>f y w++cls f l ws
noncomputable def cl (K:Frag)(n:Nat):V→Value→List Clm:=Nat.rec (motive:=fun _=>V→Value→List Clm) (fun _ _=>noC) (fun _ ih x v=>match x with
 |.int i=>[((v,none,true),(.int i (FQ v),none,true))]
 |.str m=>[((v,none,Nat.blt m 27),(.str (nm m) (FQ v),none,true))]
 |.tup l=>((v,K.lookup (xE v),hid.contains (xE v)),(.ref (xE v),some (vA (afN (eK K (xE v)))),false))::cls ih l (afN (eK K (xE v)))
 |_=>noC) n
def TS (l:List Clm):Prop:=∀p∈l,p.1=p.2
theorem uS:¬TS noC:=fun h=>nomatch (Prod.mk.inj (Prod.mk.inj (h _ (.head _))).2).2
section
variable {K:Frag}{h:Heap}{P:Params}
theorem OA {f:V→Value→List Clm}(ok:∀x v,TS (f x v)→Rp P (gh (xD h)) v x):∀l vs,TS (cls f l vs)→bJ P (gh (xD h)) vs l
 |[],[],_=>bJ.nil
 |[],_::_,q=>absurd q uS
 |_::_,[],q=>absurd q uS
 |y::l,w::ws,q=>bJ.cons (ok y w fun p m=>q p (List.mem_append_left _ m)) (OA ok l ws fun p m=>q p (List.mem_append_right _ m))
theorem afS (X:K.In h):∀n x v,TS (cl K n x v)→Rp P (gh (xD h)) v x:=fun n=>by
 induction n with
 |zero=>exact fun x v q=>absurd q uS
 |succ n ih=>
  intro x v q
  cases x with
  |int i=>exact ⟨_,(Prod.mk.inj (q _ (.head _))).1⟩
  |str m=>
   refine aF (Prod.mk.inj (q _ (.head _))) fun e1 e2=>?_
   exact ⟨Nat.blt_eq.mp (Prod.mk.inj e2).2,_,e1⟩
  |tup l=>
   refine aF (Prod.mk.inj (q _ (.head _))) fun e1 e2=>?_
   refine aF (Prod.mk.inj e2) fun e2 e3=>?_
   exact (bM _ _ ⟨e1,hH (X _ _ e2) e3,OA ih l _ fun p m=>q p (.tail _ m)⟩)
  |_=>exact absurd q uS
noncomputable def aaG (K:Frag)(x:Str):Value:=match nsIn K mainGlobals x with
 |some (some v)=>v
 |_=>.none
noncomputable def gz:List (Str×V):=jB.zip glb
noncomputable def glL (K:Frag):=gz.map fun p=>(nsIn K mainGlobals p.1,(cl K 6 p.2 (aaG K p.1)).map (·.1))
noncomputable def glR (K:Frag):=gz.map fun p=>(some (some (aaG K p.1)),(cl K 6 p.2 (aaG K p.1)).map (·.2))
theorem TT {mg:Str→Option Value}(X:K.In h)(G:h.Ns mainGlobals mg)(e:glL K=glR K)(i:Nat)(x:Str)(v:V)(hx:jB[i]? =some x)(hv:glb[i]? =some v):∃pv,mg x=some pv∧Rp P (gh (xD h)) pv v:=by
 have m:(x,v)∈gz:=List.mem_of_getElem? (i:=i) (by rw [gz,List.getElem?_zip_eq_some];exact ⟨hx,hv⟩)
 refine aF (Prod.mk.inj (List.map_inj_left.mp e _ m)) fun e1 e2=>?_
 exact ⟨_,mg_of X G e1,afS X 6 v _ fun p hp=>List.map_inj_left.mp e2 p hp⟩
noncomputable def VP (K:Frag):Obj:=eK K (jO K "RANKS")
noncomputable def OI (o:Obj):List DictEntry×Nat:=match o.data with
 |.dict es n=>(es.toList,n)
 |_=>([],0)
noncomputable def rkN:List Nat:=[0,1,2,3,4,5]
noncomputable def rkI (n:Nat):Int:=([4,0,2,3,5,1]:List Int).getD n 0
noncomputable def OB (e:DictEntry):Nat:=FQ e.key
noncomputable def TU (e:DictEntry):Str:=match e.key with
 |.str s _=>s
 |_=> ""
noncomputable def rkL (K:Frag):=(nsIn K mainGlobals "RANKS",K.lookup (jO K "RANKS"),hid.contains (jO K "RANKS"),(OI (VP K)).1,rkN.map fun n=>findBy Value.isStrOf (OI (VP K)).1.toArray (nm n))
noncomputable def rkR (P:Params)(K:Frag):=((some (some (.ref (jO K "RANKS"))):Option (Option Value)),(some ({cls:=.type "dict",data:=.dict (OI (VP K)).1.toArray (OI (VP K)).2}:Obj)),false,(OI (VP K)).1.map fun e=>({hash:=PyData.keyHash P (TU e),key:=.str (TU e) (OB e),val:=e.val}:DictEntry),
 rkN.map fun n=>(some (.int (rkI n) (FQ ((findBy Value.isStrOf (OI (VP K)).1.toArray (nm n)).getD .none))):Option Value))
theorem FS:∀{n:Nat} {v:Int},AD (.str n)=some (.int v)→n∈rkN∧v=rkI n
 |0,_,q=>by cases q;exact ⟨by decide,rfl⟩
 |1,_,q=>by cases q;exact ⟨by decide,rfl⟩
 |2,_,q=>by cases q;exact ⟨by decide,rfl⟩
 |3,_,q=>by cases q;exact ⟨by decide,rfl⟩
 |4,_,q=>by cases q;exact ⟨by decide,rfl⟩
 |5,_,q=>by cases q;exact ⟨by decide,rfl⟩
 |n+6,_,q=>by cases q
theorem afT {mg:Str→Option Value}{prog:Program}{w:World}(X:K.In h)(G:h.Ns mainGlobals mg)(e:rkL K=rkR w.params K):∃a f,mg "RANKS" =some (.ref a)∧(xD h).MapOf (PySem.strKind prog w) a f∧∀n v,AD (.str n)=some (.int v)→∃t,f (nm n)=some (.int v t):=by
 refine eS fun gG gH=>?_;refine aF (Prod.mk.inj e) fun e1 e=>?_
 refine aF (Prod.mk.inj e) fun e2 e=>?_
 refine aF (Prod.mk.inj e) fun e3 e=>?_
 refine aF (Prod.mk.inj e) fun e4 e5=>?_
 refine gH ?_;refine (bM _ (findBy Value.isStrOf (OI (VP K)).1.toArray) ⟨mg_of X G e1,(gE _ _ _ ⟨hH (X _ _ e2) e3,⟨rfl,rfl,rfl⟩,rfl,fun d hd=>?_,fun _=>rfl⟩),fun n v q=>?_⟩)
 ·have hd':d∈(OI (VP K)).1:=by simpa using hd
  rw [e4] at hd'
  refine aD (List.mem_map.mp hd') fun d' _ aj9=>?_;subst aj9
  exact ⟨TU d',by simp [PySem.strKind,Value.isStrOf],rfl⟩
 ·refine aF (FS q) fun hn akA=>?_;subst akA
  exact ⟨_,List.map_inj_left.mp e5 n hn⟩
end
section
variable {K:Frag}{h:Heap}{mg mb:Str→Option Value}{w:World}
theorem OC {a:Addr}{m:Str→Option Value}(n:h.Ns a m)(e:hid.contains a=false):(xD h).Ns a m:=by
 refine iZ n fun o es ep g r=>?_
 exact (gE o es ep ⟨hH g e,r⟩)
noncomputable def uT (K:Frag):Addr:=jO K "CasFail"
noncomputable def lA (K:Frag):ClassData:=kCd (eK K (uT K))
noncomputable def OD (K:Frag)(i:Nat):Option Value:=((eK K (uT K)).slots[i]?).getD none
noncomputable def xF (K:Frag):List DictEntry:=(OI (eK K (lA K).ns)).1
noncomputable def lB (K:Frag):Addr:=xE ((nsFind (xF K).toArray "__init__").getD .none)
noncomputable def cdB (st:Stmt):List Stmt:=(vs st).b
noncomputable def xG:Vs:=vs (hdS (cdB (PySem.Challenge.pw_pf0067_01.main.body.getD 1 (.Pass p0))))
noncomputable def afU:Arguments:=(xG.f.map (·.1)).getD ⟨[],[],none,[],[],none,[]⟩
noncomputable def aaH:Scope:=(xG.f.map (·.2)).getD ⟨.function,[],false,false,[]⟩
noncomputable def e0:Expr:=(vs (xG.b.getD 0 (.Pass p0))).v
noncomputable def e1:Stmt:=xG.b.getD 1 (.Pass p0)
noncomputable def e2:Stmt:=xG.b.getD 2 (.Pass p0)
noncomputable def e01:Expr:=l2 (xl e0)
theorem afV:MU afU xG.b aaH:=⟨fun a b c body' pm cd doc=>by kernel_rfl,by kernel_rfl,by kernel_rfl,by kernel_rfl,fun x hx=>List.all_eq_true.mp (by kernel_rfl:(aaH.names.all fun x=>(x.2==NameKind.cell)==false)=true) x hx|>eq_of_beq,by kernel_rfl,by kernel_rfl,by kernel_rfl,by kernel_rfl,
 ⟨xp (x1 (x1 e0)),xp (x1 e0),xp (l1 (xl e0)),xp (x1 (x1 e01)),xk (x2 (x1 e01)),xp (x2 (x1 e01)),xp (x1 e01),xp (x2 e01),xp e01,xp e0,(vs (xG.b.getD 0 (.Pass p0))).p,xp (x1 (vs e1).t),xp (vs e1).t,xp (vs e1).v,(vs e1).p,xp (x1 (vs e2).t),xp (vs e2).t,xp (vs e2).v,(vs e2).p,by kernel_rfl,by kernel_rfl⟩⟩
noncomputable def afW (K:Frag):=(nsIn K mainGlobals "CasFail",K.lookup (uT K),hid.contains (uT K),K.lookup (lA K).ns,hid.contains (lA K).ns,(eK K (lA K).ns).data,(xF K).map (·.key),nsFind (xF K).toArray "__init__",kF.map (nsFind (xF K).toArray))
noncomputable def afX (K:Frag):=((some (some (.ref (uT K))):Option (Option Value)),(some (excClassObj (lA K).name (lA K).qualname (uT K) (lA K).ns (lA K).bases mE true (lA K).slotNames (lA K).subclasses (lA K).abstract (lA K).collection (eK K (uT K)).dict (OD K 0) (OD K 1) (OD K 2) (OD K 3) (OD K 5) "Exception.__new__"):Option Obj),false,
 some (eK K (lA K).ns),false,Data.dict (xF K).toArray (OI (eK K (lA K).ns)).2,(xF K).map fun e=>Value.str (TU e) (OB e),(some (.ref (lB K)):Option Value),kF.map fun _=>(none:Option Value))
noncomputable def inL (K:Frag):=((nsIn K mainGlobals "Exception",K.lookup (lB K),(eK K (lB K)).cls,(eK K (lB K)).data),cdL K (lB K) (kC K (lB K)),kQ K (kC K (lB K)))
noncomputable def inR (K:Frag):=(((some none:Option (Option Value)),some (eK K (lB K)),Value.type "function",Data.func (methDef "__init__" "CasFail.__init__" afU xG.b aaH (TQ (eK K (lB K))).pyModule (TQ (eK K (lB K))).code (TQ (eK K (lB K))).doc)),cdR K (lB K) (kC K (lB K)),(some (.str "CasFail.__init__" (FQ ((kQ K (kC K (lB K))).getD .none))):Option Value))
theorem aaI (X:K.In h)(G:h.Ns mainGlobals mg)(hb:mb "Exception" =some (.type "Exception")) (a:afW K=afX K) (b:inL K=inR K):∃N fI mN,sI (xD h) mg mb (uT K) N fI mN:=by
 refine eS fun gG gH=>?_;refine aF (Prod.mk.inj a) fun a1 a=>?_
 refine aF (Prod.mk.inj a) fun a2 a=>?_
 refine aF (Prod.mk.inj a) fun a3 a=>?_
 refine aF (Prod.mk.inj a) fun a4 a=>?_
 refine aF (Prod.mk.inj a) fun a5 a=>?_
 refine aF (Prod.mk.inj a) fun a6 a=>?_
 refine aF (Prod.mk.inj a) fun a7 a=>?_
 refine aF (Prod.mk.inj a) fun a8 a9=>?_
 refine aF (Prod.mk.inj b) fun b1 b=>?_
 refine aF (Prod.mk.inj b) fun b2 b3=>?_
 refine aF (Prod.mk.inj b1) fun c1 c=>?_
 refine aF (Prod.mk.inj c) fun c2 c=>?_
 refine aF (Prod.mk.inj c) fun c3 c4=>?_
 refine aF (NZ X b2 b3) fun r n=>?_
 refine gH ?_;refine ⟨(lA K).ns,lB K,nsFind (xF K).toArray,(akM _ _ _ _ _ _ _ _ _ _ _ _ _ (hH (X _ _ a2) a3)),(gE _ _ _ ⟨hH (X _ _ a4) a5,a6,fun e he=>?_,fun _=>rfl⟩),a8,fun n hn=>List.map_inj_left.mp a9 n hn,(ei7 _ _ _ _ _ _ _ ⟨hH (X _ _ c2) n,c3,c4,r,afV⟩),mg_of X G a1,mg_none_of X G c1,hb⟩
 have he':e∈xF K:=by simpa using he
 exact (bM _ _ (List.map_inj_left.mp a7 e he'))
noncomputable def biL (K:Frag):=(cX.map fun p=>(nsIn K mainGlobals p.1,bootBuiltins p.1,p.1==("__name__" :Str)),bootBuiltins "Exception")
noncomputable def biR:=(cX.map fun p=>((some none:Option (Option Value)),some p.2,false),(some (.type "Exception"):Option Value))
noncomputable def bmL (K:Frag):=(nsIn K mainGlobals "__builtins__",hid.contains (jO K "__builtins__"),Nat.beq (jO K "__builtins__") builtinsNs,Nat.beq (jO K "__builtins__") mainGlobals)
noncomputable def bmR (K:Frag):=((some (some (.ref (jO K "__builtins__"))):Option (Option Value)),false,false,false)
theorem VQ (X:K.In h)(G:h.Ns mainGlobals mg)(e:bmL K=bmR K)(B:∃bm ob,mg "__builtins__" =some (.ref bm)∧bm≠builtinsNs∧h.get? bm=some ob∧ob.cls=.type "module" ∧ob.dict=some builtinsNs∧ob.data=.plain) {P:Addr} (hP:hid.contains P=true):(xD h).BuiltinsAt mg P:=by
 refine aF (Prod.mk.inj e) fun e1 e=>?_
 refine aF (Prod.mk.inj e) fun e6 e=>?_
 refine aF (Prod.mk.inj e) fun e7 e8=>?_
 have m:=mg_of X G e1
 refine FY B fun bm ob m' n g c1 c2 c3=>?_
 rw [m] at m'
 injection m' with m'
 injection m' with m'
 rw [←m'] at g
 exact (bM _ _ ⟨m,(fun q=>by rw [q,Nat.beq_refl] at e7;cases e7),(fun q=>by rw [q,Nat.beq_refl] at e8;cases e8),(fun q=>by rw [q,hP] at e6;cases e6),hH g e6,c1,c2,c3⟩)
theorem sN {c P:Addr}(x:CodeHd h c P)(n:hid.contains c=false):CodeHd (xD h) c P:=by
 refine aa5 x fun o vs f tf fl tg b m tt g r=>?_
 exact (ei9 o vs f tf fl tg b m tt ⟨hH g n,r⟩)
structure KOk (P:Params)(K:Frag):Prop where
 fns:afP K=afQ K
 told:fnL K "_law_told" (cJ 151)=fnR K "_law_told" (iM 151) (cO 151).b (cJ 151)
 gl:glL K=glR K
 rk:rkL K=rkR P K
 cas:afW K=afX K
 ini:inL K=inR K
 bi:biL K=biR
 bm:bmL K=bmR K
 hd:(codeHdIn K (kC K (jO K f_law_beginning_right.name)) 836,codeHdIn K (kC K (jO K f_law_limits_right.name)) 843,hid.contains (kC K (jO K f_law_beginning_right.name)),hid.contains (kC K (jO K f_law_limits_right.name)))=(true,true,false,false)
end
theorem i91:(152,f_law_beginning_right)∈jl:=List.mem_of_getElem? (i:=91) rfl
theorem i92:(153,f_law_limits_right)∈jl:=List.mem_of_getElem? (i:=92) rfl
theorem i93:(154,f_law)∈jl:=List.mem_of_getElem? (i:=93) rfl
theorem i80:(138,f_limit_end)∈jl:=List.mem_of_getElem? (i:=80) rfl
theorem i81:(139,f_limit_term)∈jl:=List.mem_of_getElem? (i:=81) rfl
theorem i82:(140,f_taylor_term)∈jl:=List.mem_of_getElem? (i:=82) rfl
noncomputable def t91:eW:=⟨836,xB NP,f_law_beginning_right.name++ ".<locals>." ++ "<lambda>"⟩
noncomputable def t92:eW:=⟨843,xB NQ,f_law_limits_right.name++ ".<locals>." ++ "<lambda>"⟩
section
variable {K:Frag}{w:World}{s:Shared}{mg mb:Str→Option Value}
structure At0 (K:Frag)(w:World)(h:Heap)(mg mb:Str→Option Value):Prop where
 X:K.In h
 ok:KOk w.params K
 g:h.Ns mainGlobals mg
 b:h.Ns builtinsNs mb
 lim:h.NoLimit
 bi:∀x:Str,x≠ "__name__" →mb x=bootBuiltins x
 bm:∃bm ob,mg "__builtins__" =some (.ref bm)∧bm≠builtinsNs∧h.get? bm=some ob∧ob.cls=.type "module" ∧ob.dict=some builtinsNs∧ob.data=.plain
 tb:∀P∈([843,836]:List Addr),h.get? P=some (tabObj #[])
noncomputable def afY (prog:Program)(H:At0 K w s.heap mg mb):Cx w where
 prog:=prog
 bs:=xD s.heap
 mg:=mg
 mb:=mb
 nsg:=OC H.g rfl
 nsb:=OC H.b rfl
 nolim:=aD H.lim fun mc n e=>⟨mc,OC n rfl,e⟩
 glob:=TT H.X H.g H.ok.gl
 bi:=fun p hp=>by
  have q:=List.map_inj_left.mp (Prod.mk.inj H.ok.bi).1 p hp
  refine aF (Prod.mk.inj q) fun q1 q=>?_
  refine aF (Prod.mk.inj q) fun q2 q3=>?_
  exact ⟨mg_none_of H.X H.g q1,(H.bi p.1 fun e=>by rw [e] at q3;cases q3).trans q2⟩
 fns:=fun f fn e=>by
  refine aR (VO e) fun j m=>?_
  have F:=(uR H.X H.g H.ok.fns _ m).1
  refine GA F.obj fun o pm cd doc h1 h2 _=>?_
  exact (gE _ o _ ⟨F.there,h1,h2⟩)
 rk:=afT H.X H.g H.ok.rk
theorem OE {prog:Program}(H:At0 K w s.heap mg mb):iC (afY prog H):=fun f fn e=>by
 refine aR (VO e) fun j m=>?_
 refine eT (uR H.X H.g H.ok.fns _ m) fun F O _=>?_
 exact (zZ _ _ _ _ ⟨F,O⟩)
noncomputable def aaJ (prog:Program)(H:At0 K w s.heap mg mb):Ct:={w:=w,cx:=afY prog H,T:=nR [t91,t92],A:=callerA,C:=aT 0,N:=0,io:=none,hh:=rfl,hu:=by decide}
theorem TV {prog:Program}(H:At0 K w s.heap mg mb):xC (aaJ prog H) (uT K) t91 t92 (kC K (jO K f_law_beginning_right.name)) (kC K (jO K f_law_limits_right.name)):=by
 refine aF (Prod.mk.inj H.ok.hd) fun d1 d=>?_
 refine aF (Prod.mk.inj d) fun d2 d=>?_
 refine aF (Prod.mk.inj d) fun d3 d4=>?_
 have F:=fun p hp=>uR H.X H.g H.ok.fns p hp
 refine ⟨rfl,by show (836:Nat)≠843;decide,OE H,⟨aaI H.X H.g ((H.bi _ (by decide)).trans (Prod.mk.inj H.ok.bi).2) H.ok.cas H.ok.ini⟩,(zZ _ _ _ _ ⟨CT H.X H.g H.ok.told,wZ.bind,wZ.l1,wZ.l2,wZ.l3,wZ.body⟩),
  ⟨⟨_,(F _ i91).1,(F _ i91).2.2⟩,⟨sN (codeHd_of_K H.X d1) d3,by show (3:Nat)≠836;decide,VQ H.X H.g H.ok.bm H.bm rfl,rfl⟩⟩,rfl,
  ⟨⟨_,(F _ i92).1,(F _ i92).2.2⟩,⟨sN (codeHd_of_K H.X d2) d4,by show (3:Nat)≠843;decide,VQ H.X H.g H.ok.bm H.bm rfl,rfl⟩⟩,rfl,⟨_,(F _ i82).1⟩,⟨_,(F _ i80).1⟩,⟨_,(F _ i81).1⟩⟩
theorem uU {a:Addr}:(nR [t91,t92]).tb a↔a=836∨a=843:=⟨fun ⟨t,ht,e⟩=>by
 simp only [List.mem_cons,List.not_mem_nil,or_false] at ht
 rcases ht with rfl|rfl
 ·exact .inl e.symm
 ·exact .inr e.symm,fun q=>q.elim (fun e=>⟨t91,.head _,e.symm⟩) fun e=>⟨t92,.tail _ (.head _),e.symm⟩⟩
theorem qI {a:Addr}:a∈hid↔a=843∨a=836∨a=1:=by simp [hid]
theorem OF {prog:Program}(H:At0 K w s.heap mg mb):cP (aaJ prog H) s.heap (· ∈hid) none:=by
 have t1:=H.tb 843 (.head _)
 have t2:=H.tb 836 (.tail _ (.head _))
 have l1:843<s.heap.objs.size:=Heap.lt_size t1
 refine ⟨fun a o e=>⟨(NY e).1,fun m=>?_⟩,fun a m=>.inl ?_,fun a t=>?_,fun t ht=>?_,⟨qI.mpr (.inr (.inr rfl)),?_⟩,nofun⟩
 ·have:=(NY e).2
  rw [List.contains_iff_mem.mpr m] at this;cases this
 ·rcases qI.mp m with rfl|rfl|rfl
  ·exact l1
  ·exact Nat.lt_trans (by decide) l1
  ·exact Nat.lt_trans (by decide) l1
 ·rcases uU.mp t with rfl|rfl
  ·exact ⟨qI.mpr (.inr (.inl rfl)),Nat.lt_trans (by decide) l1⟩
  ·exact ⟨qI.mpr (.inl rfl),l1⟩
 ·simp only [List.mem_cons,List.not_mem_nil,or_false] at ht
  rcases ht with rfl|rfl
  ·exact ⟨#[],⟨t2,.inl (uU.mpr (.inl rfl))⟩,.inl rfl⟩
  ·exact ⟨#[],⟨t1,.inl (uU.mpr (.inr rfl))⟩,.inl rfl⟩
 ·exact Nat.lt_trans (show (1:Nat)<843 by decide) l1
theorem join {prog:Program}(H:At0 K w s.heap mg mb){fa:Addr}(hm:mg "law" =some (.ref fa)) {l:List Int} (hl:l.length≤1000) {a:Addr} {vs:List Value} (ho:s.heap.get? a=some (bV vs 0)) (hv:bJ w.params (fun _ _=>False) vs (l.map .int)) (ha:a≠1)
  {R:Result→Shared→Prop} (h:∀h' tk,(∀b o,s.heap.get? b=some o→b≠836→b≠843→h'.get? b=some o)→(∃ps,h'.get? 843=some (tabObj ps))→(∃ps,h'.get? 836=some (tabObj ps))→R (.ok (.ret (.bool true))) {s with heap:=h',toks:=tk}):
  codeAny (model prog w) callerA (.call (.ref fa) ⟨[.ref a],[]⟩) R s:=by
 have FA:=(uR H.X H.g H.ok.fns _ i93).1
 have e:fa=jO K f_law.name:=by have:=FA.there;rw [show mg f_law.name=_ from hm] at this;cases this;rfl
 subst e
 have an:a∉hid:=fun m=>by
  rcases qI.mp m with rfl|rfl|rfl
  ·rw [H.tb _ (.head _)] at ho;cases ho
  ·rw [H.tb _ (.tail _ (.head _))] at ho;cases ho
  ·exact ha rfl
 have RM:dK callerA 64:=⟨rfl,by decide,by decide⟩
 refine TP (K:=aaJ prog H) (TV H) RM rfl FA (OF H) hl (gE a vs 0 ⟨rfl,⟨ho,an⟩,lC.mono (fun _ _ q=>q.elim) _ hv⟩) fun h' tk k1 k2=>?_
 have tab:∀t∈[t91,t92],∃ps,h'.get? t.P=some (tabObj ps):=fun t ht=>by
  refine aD (k2 t ht) fun ps q _=>?_
  exact ⟨ps,q.1⟩
 exact h h' tk (fun b o g n1 n2=>k1 b o g fun t=>(uU.mp t).elim n1 n2) (tab t92 (.tail _ (.head _))) (tab t91 (.head _))
end
theorem FT {P:Params}{h:Heap}{l:List Int}:∀{vs:List Value},WellAll P h vs (ofPys (l.map PyData.int))→bJ P (fun _ _=>False) vs (l.map .int):=by
 induction l with
 |nil=>intro vs r;cases r;exact bJ.nil
 |cons a l ih=>
  intro vs r
  cases r with
  |cons q r=>cases q;exact bJ.cons ⟨_,rfl⟩ (ih r)
theorem args_ok {P:Params}{h:Heap}{a:Addr}{l:List Int}(r:WellAll P h [.ref a] [ofPy (.list (l.map PyData.int))]):∃vs,h.get? a=some (bV vs 0)∧bJ P (fun _ _=>False) vs (l.map .int):=by
 cases r with
 |cons q _=>cases q with
  |list g r=>exact ⟨_,g,FT r⟩
theorem addr_in {R:WRecords}{cl:Str→Option Addr}{h:Heap}{a:Addr}{xs:List PyData}{as:List Addr}(r:ReadsAllW R cl h [.ref a] [ofPy (.list xs)] as):a∈as:=by
 cases r with
 |cons r _=>cases r with
  |list _ _ _ _=>exact .head _
theorem afZ {h:Heap}:(ghostOf h [(845,843),(840,836)]).get? 843=none:=hideAll_none _ (.head _)
theorem af0 {h:Heap}:(ghostOf h [(845,843),(840,836)]).get? 836=none:=hideAll_none _ (.tail _ (.head _))
theorem good_end {c:ClaimW}{cl:Str→Option Addr}{mean:ExcName→Option Value}{args:List WData}{s:Shared}{h':Heap}{tk:Nat}(hg:s.gens= #[])(h1:∀x,c.raises args x=false)(h2:c.post args (.bool true) args=true)(k1:∀b o,s.heap.get? b=some o→b≠836→b≠843→h'.get? b=some o)(k2:∃ps,h'.get? 843=some (tabObj ps))(k3:∃ps,h'.get? 836=some (tabObj ps)):
  GoodW c cl mean args {s with heap:=ghostOf s.heap [(845,843),(840,836)]} (.ok (.ret (.bool true))) {s with heap:=h',toks:=tk}∧GrownAll [(845,843),(840,836)] h':=
 ⟨⟨.inl (gE _ _ _ ⟨rfl,h1,.bool true,h2,fun _=>⟨List.nodup_nil,nofun⟩⟩),(fun b o e=>k1 b o (of_hideAll _ e) (fun q=>by rw [q,af0] at e;cases e) fun q=>by rw [q,afZ] at e;cases e),rfl,hg⟩,k2,k3,trivial⟩
end Mine.Internal
namespace Mine
theorem hd.tw10012880186880212623:True:=⟨⟩
theorem hd.tw10024716035694756283:True:=⟨⟩
theorem hd.tw10030107230732127627:True:=⟨⟩
theorem hd.tw100483095206116625:True:=⟨⟩
theorem hd.tw1005483496087919985:True:=⟨⟩
theorem hd.tw10098268173465320503:True:=⟨⟩
theorem hd.tw10111801491309104144:True:=⟨⟩
theorem hd.tw1011335219593555734:True:=⟨⟩
theorem hd.tw10117440562283002822:True:=⟨⟩
theorem hd.tw1013155817946168525:True:=⟨⟩
theorem hd.tw10170382586518783626:True:=⟨⟩
theorem hd.tw10203026625882799534:True:=⟨⟩
theorem hd.tw10246146449241189800:True:=⟨⟩
theorem hd.tw10258999931320997221:True:=⟨⟩
theorem hd.tw10264135568141901301:True:=⟨⟩
theorem hd.tw10292235466723388172:True:=⟨⟩
theorem hd.tw1033889070964956483:True:=⟨⟩
theorem hd.tw10403243965636340961:True:=⟨⟩
theorem hd.tw10404513684093684653:True:=⟨⟩
theorem hd.tw10424393626065333798:True:=⟨⟩
theorem hd.tw1043307727769730188:True:=⟨⟩
theorem hd.tw10458740792067480800:True:=⟨⟩
theorem hd.tw10465514089279642386:True:=⟨⟩
theorem hd.tw10491609206876299696:True:=⟨⟩
theorem hd.tw10507497572311344420:True:=⟨⟩
theorem hd.tw10543509907540572799:True:=⟨⟩
theorem hd.tw10583446816852156582:True:=⟨⟩
theorem hd.tw10601615944963115059:True:=⟨⟩
theorem hd.tw10603584201595350602:True:=⟨⟩
theorem hd.tw10614716105012338702:True:=⟨⟩
theorem hd.tw10678649693572172417:True:=⟨⟩
theorem hd.tw10727248033764811480:True:=⟨⟩
theorem hd.tw10738003575532504788:True:=⟨⟩
theorem hd.tw10743916045514856203:True:=⟨⟩
theorem hd.tw10752148897807903841:True:=⟨⟩
theorem hd.tw10781468475247234061:True:=⟨⟩
theorem hd.tw10784824025267889561:True:=⟨⟩
theorem hd.tw10788059911547816233:True:=⟨⟩
theorem hd.tw10792051664901133789:True:=⟨⟩
theorem hd.tw10806950440038215891:True:=⟨⟩
theorem hd.tw10844753989422098599:True:=⟨⟩
theorem hd.tw10847404155465417027:True:=⟨⟩
theorem hd.tw10860895700388868024:True:=⟨⟩
theorem hd.tw10875273251888808591:True:=⟨⟩
theorem hd.tw10879034167726328663:True:=⟨⟩
theorem hd.tw1088296927520436173:True:=⟨⟩
theorem hd.tw10905682514733158466:True:=⟨⟩
theorem hd.tw10919297434634762262:True:=⟨⟩
theorem hd.tw10949625832625181284:True:=⟨⟩
theorem hd.tw11011131195910976488:True:=⟨⟩
theorem hd.tw11032806212648032379:True:=⟨⟩
theorem hd.tw11047965835060713302:True:=⟨⟩
theorem hd.tw11054480109507316185:True:=⟨⟩
theorem hd.tw11079593142295127227:True:=⟨⟩
theorem hd.tw11117797201346649052:True:=⟨⟩
theorem hd.tw11128854368766332075:True:=⟨⟩
theorem hd.tw11151547217846952531:True:=⟨⟩
theorem hd.tw11162318198679636149:True:=⟨⟩
theorem hd.tw1118553966540926140:True:=⟨⟩
theorem hd.tw11210553801493137410:True:=⟨⟩
theorem hd.tw11213053971927718326:True:=⟨⟩
theorem hd.tw11249132867342737325:True:=⟨⟩
theorem hd.tw11251137523995926341:True:=⟨⟩
theorem hd.tw11256106856564762260:True:=⟨⟩
theorem hd.tw11283319371284918911:True:=⟨⟩
theorem hd.tw11319097763535126812:True:=⟨⟩
theorem hd.tw11319892378374348655:True:=⟨⟩
theorem hd.tw11375277706881905925:True:=⟨⟩
theorem hd.tw11399449904127653305:True:=⟨⟩
theorem hd.tw11402939732021071671:True:=⟨⟩
theorem hd.tw11465210709893060100:True:=⟨⟩
theorem hd.tw11513968764499736323:True:=⟨⟩
theorem hd.tw11587034568685482758:True:=⟨⟩
theorem hd.tw11623594800819314181:True:=⟨⟩
theorem hd.tw11631869004601391166:True:=⟨⟩
theorem hd.tw11631947586910100387:True:=⟨⟩
theorem hd.tw11652457597714270106:True:=⟨⟩
theorem hd.tw11660266114150955751:True:=⟨⟩
theorem hd.tw11709330566771433103:True:=⟨⟩
theorem hd.tw11713075325732132258:True:=⟨⟩
theorem hd.tw11754176132448286083:True:=⟨⟩
theorem hd.tw11778180911958503814:True:=⟨⟩
theorem hd.tw11801993109049149486:True:=⟨⟩
theorem hd.tw11814627755841444246:True:=⟨⟩
theorem hd.tw11893437276241958245:True:=⟨⟩
theorem hd.tw11905163887095721015:True:=⟨⟩
theorem hd.tw11912922877643110818:True:=⟨⟩
theorem hd.tw11917015161858427179:True:=⟨⟩
theorem hd.tw11953376511379268794:True:=⟨⟩
theorem hd.tw11968265576560266318:True:=⟨⟩
theorem hd.tw1197925565968671727:True:=⟨⟩
theorem hd.tw12023040214023829324:True:=⟨⟩
theorem hd.tw12050417470231563642:True:=⟨⟩
theorem hd.tw12058812876911547015:True:=⟨⟩
theorem hd.tw12070654863422294720:True:=⟨⟩
theorem hd.tw12092154237167983948:True:=⟨⟩
theorem hd.tw12109462406949408883:True:=⟨⟩
theorem hd.tw12112201142124510154:True:=⟨⟩
theorem hd.tw12113243949977362033:True:=⟨⟩
theorem hd.tw12127338746724423809:True:=⟨⟩
theorem hd.tw12131494931117144662:True:=⟨⟩
theorem hd.tw12173100003817136821:True:=⟨⟩
theorem hd.tw12268275109542032366:True:=⟨⟩
theorem hd.tw12271959270614036898:True:=⟨⟩
theorem hd.tw12337632362937886050:True:=⟨⟩
theorem hd.tw12350410155528471161:True:=⟨⟩
theorem hd.tw12364972598781006883:True:=⟨⟩
theorem hd.tw12393119488966705847:True:=⟨⟩
theorem hd.tw12399718760709695909:True:=⟨⟩
theorem hd.tw1241404454085649124:True:=⟨⟩
theorem hd.tw12459740579856956213:True:=⟨⟩
theorem hd.tw12487502673411948298:True:=⟨⟩
theorem hd.tw12521463284412890351:True:=⟨⟩
theorem hd.tw12588582704262371052:True:=⟨⟩
theorem hd.tw12590977762386282803:True:=⟨⟩
theorem hd.tw12591134339009171964:True:=⟨⟩
theorem hd.tw12602439190401603521:True:=⟨⟩
theorem hd.tw12611767792052310623:True:=⟨⟩
theorem hd.tw12629568148972539762:True:=⟨⟩
theorem hd.tw12631932088317031055:True:=⟨⟩
theorem hd.tw12647368939536790636:True:=⟨⟩
theorem hd.tw12659318050587179527:True:=⟨⟩
theorem hd.tw12685813987229840507:True:=⟨⟩
theorem hd.tw12744807935193187038:True:=⟨⟩
theorem hd.tw12769127236821124696:True:=⟨⟩
theorem hd.tw12832683148521936107:True:=⟨⟩
theorem hd.tw12861998865439983172:True:=⟨⟩
theorem hd.tw12870888531099404533:True:=⟨⟩
theorem hd.tw12940713784782232206:True:=⟨⟩
theorem hd.tw12949589719889679912:True:=⟨⟩
theorem hd.tw12994019391074448376:True:=⟨⟩
theorem hd.tw13038990169509382042:True:=⟨⟩
theorem hd.tw13047593935725612058:True:=⟨⟩
theorem hd.tw13066319289922817542:True:=⟨⟩
theorem hd.tw13092906067662860646:True:=⟨⟩
theorem hd.tw13122850982685727845:True:=⟨⟩
theorem hd.tw13132618709999183898:True:=⟨⟩
theorem hd.tw13160604113216922460:True:=⟨⟩
theorem hd.tw13181700845877081190:True:=⟨⟩
theorem hd.tw13217827037086042188:True:=⟨⟩
theorem hd.tw13220430256171166289:True:=⟨⟩
theorem hd.tw13225837485096350037:True:=⟨⟩
theorem hd.tw13234811391865401302:True:=⟨⟩
theorem hd.tw13267510147771200024:True:=⟨⟩
theorem hd.tw13280443560766958183:True:=⟨⟩
theorem hd.tw13285133528070534704:True:=⟨⟩
theorem hd.tw13289513938125300765:True:=⟨⟩
theorem hd.tw13293453174229064190:True:=⟨⟩
theorem hd.tw1331086792558400476:True:=⟨⟩
theorem hd.tw13315533130655954831:True:=⟨⟩
theorem hd.tw13321331477185743149:True:=⟨⟩
theorem hd.tw13322179722446271537:True:=⟨⟩
theorem hd.tw13330244855972007585:True:=⟨⟩
theorem hd.tw13342606739435360313:True:=⟨⟩
theorem hd.tw13365295217650922812:True:=⟨⟩
theorem hd.tw13368278939475635651:True:=⟨⟩
theorem hd.tw13372043803930879067:True:=⟨⟩
theorem hd.tw13409441903868389331:True:=⟨⟩
theorem hd.tw13466754112058979494:True:=⟨⟩
theorem hd.tw13475242022060392486:True:=⟨⟩
theorem hd.tw13483081372092288885:True:=⟨⟩
theorem hd.tw13518370688599389936:True:=⟨⟩
theorem hd.tw13531707123254989501:True:=⟨⟩
theorem hd.tw13532847315355080253:True:=⟨⟩
theorem hd.tw13566260322249332789:True:=⟨⟩
theorem hd.tw1359830224848277088:True:=⟨⟩
theorem hd.tw13638418597567726942:True:=⟨⟩
theorem hd.tw13642289790063256904:True:=⟨⟩
theorem hd.tw13770079208771991547:True:=⟨⟩
theorem hd.tw13790719812936386609:True:=⟨⟩
theorem hd.tw1379335367625716243:True:=⟨⟩
theorem hd.tw13828106393651249627:True:=⟨⟩
theorem hd.tw1382963296337349011:True:=⟨⟩
theorem hd.tw13855946660403688772:True:=⟨⟩
theorem hd.tw13866372431405929976:True:=⟨⟩
theorem hd.tw13893168526513508166:True:=⟨⟩
theorem hd.tw13903934854276604550:True:=⟨⟩
theorem hd.tw13919464512627920130:True:=⟨⟩
theorem hd.tw13929354066492186541:True:=⟨⟩
theorem hd.tw13931416462566266981:True:=⟨⟩
theorem hd.tw13994979335412520660:True:=⟨⟩
theorem hd.tw14006173549557618073:True:=⟨⟩
theorem hd.tw14029546391885035639:True:=⟨⟩
theorem hd.tw14060154772996877548:True:=⟨⟩
theorem hd.tw14060237666301923597:True:=⟨⟩
theorem hd.tw1409312971732116557:True:=⟨⟩
theorem hd.tw14103535550066685397:True:=⟨⟩
theorem hd.tw14120982254508448379:True:=⟨⟩
theorem hd.tw1413172679324656950:True:=⟨⟩
theorem hd.tw14137390275340422267:True:=⟨⟩
theorem hd.tw1425423193147277237:True:=⟨⟩
theorem hd.tw14294001040229213422:True:=⟨⟩
theorem hd.tw14353793391729792155:True:=⟨⟩
theorem hd.tw14400467628812073631:True:=⟨⟩
theorem hd.tw14439243815434019604:True:=⟨⟩
theorem hd.tw14457593812595234344:True:=⟨⟩
theorem hd.tw14462709497994964445:True:=⟨⟩
theorem hd.tw14492701947808656938:True:=⟨⟩
theorem hd.tw1452849714261714991:True:=⟨⟩
theorem hd.tw14553816603554493358:True:=⟨⟩
theorem hd.tw14560493823538711346:True:=⟨⟩
theorem hd.tw14567429538950270057:True:=⟨⟩
theorem hd.tw14598272352848978880:True:=⟨⟩
theorem hd.tw14620637471214046174:True:=⟨⟩
theorem hd.tw14667805832236412624:True:=⟨⟩
theorem hd.tw14685462170515437407:True:=⟨⟩
theorem hd.tw14705683404202351889:True:=⟨⟩
theorem hd.tw14708807125848044605:True:=⟨⟩
theorem hd.tw14745743045033390146:True:=⟨⟩
theorem hd.tw14772383043592177042:True:=⟨⟩
theorem hd.tw14852329139284432860:True:=⟨⟩
theorem hd.tw14859038896228082724:True:=⟨⟩
theorem hd.tw14892549342360969540:True:=⟨⟩
theorem hd.tw14896477498954680388:True:=⟨⟩
theorem hd.tw14906377314874228009:True:=⟨⟩
theorem hd.tw14955159897011116063:True:=⟨⟩
theorem hd.tw14960593345356199642:True:=⟨⟩
theorem hd.tw14991384322417631237:True:=⟨⟩
theorem hd.tw15042006015671813226:True:=⟨⟩
theorem hd.tw15043168886218598503:True:=⟨⟩
theorem hd.tw15048261121198461528:True:=⟨⟩
theorem hd.tw1506431575118746342:True:=⟨⟩
theorem hd.tw15083628210047938546:True:=⟨⟩
theorem hd.tw15089522573102190283:True:=⟨⟩
theorem hd.tw15152743547302097792:True:=⟨⟩
theorem hd.tw15166520500009309586:True:=⟨⟩
theorem hd.tw15199589371867527261:True:=⟨⟩
theorem hd.tw15207398651663016943:True:=⟨⟩
theorem hd.tw15220180469806662145:True:=⟨⟩
theorem hd.tw15344866539931968096:True:=⟨⟩
theorem hd.tw1535757262459896012:True:=⟨⟩
theorem hd.tw15367242080415987702:True:=⟨⟩
theorem hd.tw15416985209724490359:True:=⟨⟩
theorem hd.tw15422856539912107476:True:=⟨⟩
theorem hd.tw15427206886491885616:True:=⟨⟩
theorem hd.tw15508949281206285077:True:=⟨⟩
theorem hd.tw15527848837575444561:True:=⟨⟩
theorem hd.tw15529170255622000948:True:=⟨⟩
theorem hd.tw15578025631644234493:True:=⟨⟩
theorem hd.tw15595854959937240912:True:=⟨⟩
theorem hd.tw15610959940260225430:True:=⟨⟩
theorem hd.tw15615420239508185596:True:=⟨⟩
theorem hd.tw15616948245753086127:True:=⟨⟩
theorem hd.tw1563692795949630186:True:=⟨⟩
theorem hd.tw15643275761693703936:True:=⟨⟩
theorem hd.tw15683763237869141255:True:=⟨⟩
theorem hd.tw15687388767607454252:True:=⟨⟩
theorem hd.tw15759970867653108152:True:=⟨⟩
theorem hd.tw15790720579355451973:True:=⟨⟩
theorem hd.tw15795773062521488754:True:=⟨⟩
theorem hd.tw1580110805410547442:True:=⟨⟩
theorem hd.tw15813434630575017362:True:=⟨⟩
theorem hd.tw15833661619300960221:True:=⟨⟩
theorem hd.tw15837987909243819085:True:=⟨⟩
theorem hd.tw15852365999677673905:True:=⟨⟩
theorem hd.tw15875372055831622553:True:=⟨⟩
theorem hd.tw1588505670450824345:True:=⟨⟩
theorem hd.tw15910714762333108613:True:=⟨⟩
theorem hd.tw15946388913382835224:True:=⟨⟩
theorem hd.tw15967140613478806237:True:=⟨⟩
theorem hd.tw15987713032478767096:True:=⟨⟩
theorem hd.tw15992342658441690333:True:=⟨⟩
theorem hd.tw1600037746751723098:True:=⟨⟩
theorem hd.tw16006246977917349235:True:=⟨⟩
theorem hd.tw16007149819294483003:True:=⟨⟩
theorem hd.tw16009884308244765898:True:=⟨⟩
theorem hd.tw16029623286316568529:True:=⟨⟩
theorem hd.tw1603739661141634737:True:=⟨⟩
theorem hd.tw16037735763661986305:True:=⟨⟩
theorem hd.tw16053994301053490033:True:=⟨⟩
theorem hd.tw16056359734778111409:True:=⟨⟩
theorem hd.tw16064382804478563927:True:=⟨⟩
theorem hd.tw16091413853298234908:True:=⟨⟩
theorem hd.tw1610171440888473627:True:=⟨⟩
theorem hd.tw16138627921320673191:True:=⟨⟩
theorem hd.tw16154546982801380032:True:=⟨⟩
theorem hd.tw16155205043701107222:True:=⟨⟩
theorem hd.tw16157073509204512506:True:=⟨⟩
theorem hd.tw16171809288044610508:True:=⟨⟩
theorem hd.tw16178712458983371728:True:=⟨⟩
theorem hd.tw16194383521188589630:True:=⟨⟩
theorem hd.tw16240987189780228909:True:=⟨⟩
theorem hd.tw16257038226119295666:True:=⟨⟩
theorem hd.tw162610821266807592:True:=⟨⟩
theorem hd.tw1626546999972836498:True:=⟨⟩
theorem hd.tw16299908979028503884:True:=⟨⟩
theorem hd.tw16332348944364537037:True:=⟨⟩
theorem hd.tw16345102440705955213:True:=⟨⟩
theorem hd.tw16357263729072622229:True:=⟨⟩
theorem hd.tw16376525773666504680:True:=⟨⟩
theorem hd.tw16412773359747925120:True:=⟨⟩
theorem hd.tw16432713993328977331:True:=⟨⟩
theorem hd.tw16456969618363192440:True:=⟨⟩
theorem hd.tw16473244170626142550:True:=⟨⟩
theorem hd.tw16477043939570097188:True:=⟨⟩
theorem hd.tw16487816990975572028:True:=⟨⟩
theorem hd.tw16634568088961857937:True:=⟨⟩
theorem hd.tw16645720282701215070:True:=⟨⟩
theorem hd.tw16649331688326792143:True:=⟨⟩
theorem hd.tw1666387254794493845:True:=⟨⟩
theorem hd.tw16684818696116721337:True:=⟨⟩
theorem hd.tw16713699803418581334:True:=⟨⟩
theorem hd.tw16772102934027710169:True:=⟨⟩
theorem hd.tw16794629799341752650:True:=⟨⟩
theorem hd.tw16828841361933241965:True:=⟨⟩
theorem hd.tw16853341256802265648:True:=⟨⟩
theorem hd.tw16858285156579221889:True:=⟨⟩
theorem hd.tw16868993833207775613:True:=⟨⟩
theorem hd.tw16900609317406935518:True:=⟨⟩
theorem hd.tw16904818350239718627:True:=⟨⟩
theorem hd.tw16945582573551092051:True:=⟨⟩
theorem hd.tw16970440968685349367:True:=⟨⟩
theorem hd.tw1699103778626983548:True:=⟨⟩
theorem hd.tw17001982702790524580:True:=⟨⟩
theorem hd.tw17047115858639842297:True:=⟨⟩
theorem hd.tw17062030032774818151:True:=⟨⟩
theorem hd.tw17070941380808615275:True:=⟨⟩
theorem hd.tw17076082267592564974:True:=⟨⟩
theorem hd.tw17087091549796120035:True:=⟨⟩
theorem hd.tw17088047866570459193:True:=⟨⟩
theorem hd.tw1712922718373300912:True:=⟨⟩
theorem hd.tw17130151131035750659:True:=⟨⟩
theorem hd.tw17177331786930743035:True:=⟨⟩
theorem hd.tw17183224562656869120:True:=⟨⟩
theorem hd.tw17252143746492648416:True:=⟨⟩
theorem hd.tw17258206423299326598:True:=⟨⟩
theorem hd.tw17311223219408574766:True:=⟨⟩
theorem hd.tw17312999752573914782:True:=⟨⟩
theorem hd.tw17330132731328240911:True:=⟨⟩
theorem hd.tw17330945745186091897:True:=⟨⟩
theorem hd.tw17336936450418997793:True:=⟨⟩
theorem hd.tw17377124274276065709:True:=⟨⟩
theorem hd.tw17377529257436501650:True:=⟨⟩
theorem hd.tw17387473266821786944:True:=⟨⟩
theorem hd.tw17420951861521290806:True:=⟨⟩
theorem hd.tw17429513623812275283:True:=⟨⟩
theorem hd.tw17447410573909459338:True:=⟨⟩
theorem hd.tw17454471701868102899:True:=⟨⟩
theorem hd.tw17470177872615007328:True:=⟨⟩
theorem hd.tw17491317419825422843:True:=⟨⟩
theorem hd.tw17502677235029458409:True:=⟨⟩
theorem hd.tw17542962492245011380:True:=⟨⟩
theorem hd.tw17562767543260142214:True:=⟨⟩
theorem hd.tw17574625026820762457:True:=⟨⟩
theorem hd.tw17577478241444706838:True:=⟨⟩
theorem hd.tw17583924267553061668:True:=⟨⟩
theorem hd.tw17599816209265215132:True:=⟨⟩
theorem hd.tw1760603350576429475:True:=⟨⟩
theorem hd.tw17606422857730326317:True:=⟨⟩
theorem hd.tw17616961336393838875:True:=⟨⟩
theorem hd.tw17628472586750557451:True:=⟨⟩
theorem hd.tw17650839729002327288:True:=⟨⟩
theorem hd.tw17673860158736603733:True:=⟨⟩
theorem hd.tw17681399029576232318:True:=⟨⟩
theorem hd.tw17696971302532935780:True:=⟨⟩
theorem hd.tw17699033467910553154:True:=⟨⟩
theorem hd.tw17711083657039698284:True:=⟨⟩
theorem hd.tw17714235663813219645:True:=⟨⟩
theorem hd.tw17739348878880393726:True:=⟨⟩
theorem hd.tw177422321972123086:True:=⟨⟩
theorem hd.tw17772917993097084435:True:=⟨⟩
theorem hd.tw17780116424223528106:True:=⟨⟩
theorem hd.tw1781861727890032366:True:=⟨⟩
theorem hd.tw17843490464661113860:True:=⟨⟩
theorem hd.tw17893044597097874663:True:=⟨⟩
theorem hd.tw17895171251205151618:True:=⟨⟩
theorem hd.tw17901334829092211166:True:=⟨⟩
theorem hd.tw17919194246423945575:True:=⟨⟩
theorem hd.tw17925215291927510665:True:=⟨⟩
theorem hd.tw1792636949448641307:True:=⟨⟩
theorem hd.tw17948085552500728524:True:=⟨⟩
theorem hd.tw17950676927832955104:True:=⟨⟩
theorem hd.tw17975533764899295144:True:=⟨⟩
theorem hd.tw17986969038992634876:True:=⟨⟩
theorem hd.tw17989097746536338734:True:=⟨⟩
theorem hd.tw18093812233618175256:True:=⟨⟩
theorem hd.tw18103420901670897651:True:=⟨⟩
theorem hd.tw18163647496604598072:True:=⟨⟩
theorem hd.tw18166333605607142505:True:=⟨⟩
theorem hd.tw18176940659606848779:True:=⟨⟩
theorem hd.tw18219297243305740317:True:=⟨⟩
theorem hd.tw18241275227582772068:True:=⟨⟩
theorem hd.tw18245042118932799458:True:=⟨⟩
theorem hd.tw18268791191939849864:True:=⟨⟩
theorem hd.tw18291419657060728153:True:=⟨⟩
theorem hd.tw18293732401869909652:True:=⟨⟩
theorem hd.tw18293851220164018083:True:=⟨⟩
theorem hd.tw18300207936620678264:True:=⟨⟩
theorem hd.tw18322514126500204803:True:=⟨⟩
theorem hd.tw1836080755315867724:True:=⟨⟩
theorem hd.tw1847840615245081061:True:=⟨⟩
theorem hd.tw1848646778235469078:True:=⟨⟩
theorem hd.tw1865391376527767206:True:=⟨⟩
theorem hd.tw189712035060473897:True:=⟨⟩
theorem hd.tw190519026028168232:True:=⟨⟩
theorem hd.tw1997569388931296116:True:=⟨⟩
theorem hd.tw2040990291671593033:True:=⟨⟩
theorem hd.tw2051048951616859547:True:=⟨⟩
theorem hd.tw2068664650715991707:True:=⟨⟩
theorem hd.tw2101469004524951375:True:=⟨⟩
theorem hd.tw2114630138375439770:True:=⟨⟩
theorem hd.tw212345690472687942:True:=⟨⟩
theorem hd.tw2134215046882385847:True:=⟨⟩
theorem hd.tw2167537188350426706:True:=⟨⟩
theorem hd.tw2195365466389143174:True:=⟨⟩
theorem hd.tw2216850387143573719:True:=⟨⟩
theorem hd.tw2252305205657439004:True:=⟨⟩
theorem hd.tw22551697357593593:True:=⟨⟩
theorem hd.tw226724450230711188:True:=⟨⟩
theorem hd.tw2274498078352570744:True:=⟨⟩
theorem hd.tw2284436838669742495:True:=⟨⟩
theorem hd.tw2304311442786299043:True:=⟨⟩
theorem hd.tw2315301623876862497:True:=⟨⟩
theorem hd.tw2323474266016966308:True:=⟨⟩
theorem hd.tw2329189449893159454:True:=⟨⟩
theorem hd.tw2370633696588841109:True:=⟨⟩
theorem hd.tw2386827423013361158:True:=⟨⟩
theorem hd.tw2391449824757734642:True:=⟨⟩
theorem hd.tw242841246431481386:True:=⟨⟩
theorem hd.tw2442259710966052079:True:=⟨⟩
theorem hd.tw2448417245163862455:True:=⟨⟩
theorem hd.tw2457190517430149469:True:=⟨⟩
theorem hd.tw2480057099694739299:True:=⟨⟩
theorem hd.tw2502866573005156581:True:=⟨⟩
theorem hd.tw250903467453971090:True:=⟨⟩
theorem hd.tw257007361410690125:True:=⟨⟩
theorem hd.tw2603259988358896889:True:=⟨⟩
theorem hd.tw2608437505485318709:True:=⟨⟩
theorem hd.tw2619054349758303149:True:=⟨⟩
theorem hd.tw262745018181394680:True:=⟨⟩
theorem hd.tw26425463804135960:True:=⟨⟩
theorem hd.tw2658526732547218105:True:=⟨⟩
theorem hd.tw2708950531961675432:True:=⟨⟩
theorem hd.tw2739504486584576224:True:=⟨⟩
theorem hd.tw2781682124601125471:True:=⟨⟩
theorem hd.tw2783992281797965187:True:=⟨⟩
theorem hd.tw2788664435532181463:True:=⟨⟩
theorem hd.tw280609765759037681:True:=⟨⟩
theorem hd.tw2808349399557158395:True:=⟨⟩
theorem hd.tw2845679848157327705:True:=⟨⟩
theorem hd.tw2855845756224970109:True:=⟨⟩
theorem hd.tw2887051446865420828:True:=⟨⟩
theorem hd.tw2951005344575393816:True:=⟨⟩
theorem hd.tw2999033326186475339:True:=⟨⟩
theorem hd.tw3008623586974134963:True:=⟨⟩
theorem hd.tw3085183777334472315:True:=⟨⟩
theorem hd.tw3109861748172591687:True:=⟨⟩
theorem hd.tw313027258313007627:True:=⟨⟩
theorem hd.tw3182187488490625086:True:=⟨⟩
theorem hd.tw3196399650302076718:True:=⟨⟩
theorem hd.tw3219085151875037572:True:=⟨⟩
theorem hd.tw3229955645248102723:True:=⟨⟩
theorem hd.tw3259873300814134281:True:=⟨⟩
theorem hd.tw3309697970292668127:True:=⟨⟩
theorem hd.tw3350844169311001129:True:=⟨⟩
theorem hd.tw3350930974749635488:True:=⟨⟩
theorem hd.tw3381375190539634487:True:=⟨⟩
theorem hd.tw3404104791013757517:True:=⟨⟩
theorem hd.tw3419581819265744254:True:=⟨⟩
theorem hd.tw3434918251397683217:True:=⟨⟩
theorem hd.tw3442329435671937591:True:=⟨⟩
theorem hd.tw3443669649825651883:True:=⟨⟩
theorem hd.tw3452082135128663414:True:=⟨⟩
theorem hd.tw3480954088277226078:True:=⟨⟩
theorem hd.tw3484992998616243462:True:=⟨⟩
theorem hd.tw3493717111155160527:True:=⟨⟩
theorem hd.tw3513125359445811510:True:=⟨⟩
theorem hd.tw3530705653197291679:True:=⟨⟩
theorem hd.tw3571134770919094901:True:=⟨⟩
theorem hd.tw3646829019195819677:True:=⟨⟩
theorem hd.tw3673020696563887462:True:=⟨⟩
theorem hd.tw368366308016060594:True:=⟨⟩
theorem hd.tw3704167492566942397:True:=⟨⟩
theorem hd.tw3759623122121258479:True:=⟨⟩
theorem hd.tw3789350110615891812:True:=⟨⟩
theorem hd.tw3795277891434052102:True:=⟨⟩
theorem hd.tw3915529967508079626:True:=⟨⟩
theorem hd.tw3919010098100093602:True:=⟨⟩
theorem hd.tw3922637787740509324:True:=⟨⟩
theorem hd.tw3941438180925939637:True:=⟨⟩
theorem hd.tw395138700845864316:True:=⟨⟩
theorem hd.tw3953601041324332601:True:=⟨⟩
theorem hd.tw4014540891139286612:True:=⟨⟩
theorem hd.tw4021928978595405253:True:=⟨⟩
theorem hd.tw4065347644161347641:True:=⟨⟩
theorem hd.tw4068527845204499245:True:=⟨⟩
theorem hd.tw4068933124894957555:True:=⟨⟩
theorem hd.tw4086058157674990017:True:=⟨⟩
theorem hd.tw4111692666942324129:True:=⟨⟩
theorem hd.tw4115565904173853331:True:=⟨⟩
theorem hd.tw4126306136578151734:True:=⟨⟩
theorem hd.tw4136554803537287180:True:=⟨⟩
theorem hd.tw4138081844389336918:True:=⟨⟩
theorem hd.tw4159134105002834734:True:=⟨⟩
theorem hd.tw4172343393113369950:True:=⟨⟩
theorem hd.tw4182648748547736412:True:=⟨⟩
theorem hd.tw4225703048834024713:True:=⟨⟩
theorem hd.tw4272726840584523970:True:=⟨⟩
theorem hd.tw4292457097857839397:True:=⟨⟩
theorem hd.tw4297731678662094536:True:=⟨⟩
theorem hd.tw4315991029959535628:True:=⟨⟩
theorem hd.tw432457690288141553:True:=⟨⟩
theorem hd.tw4363365295628954845:True:=⟨⟩
theorem hd.tw4377701919642642989:True:=⟨⟩
theorem hd.tw4383666589626881386:True:=⟨⟩
theorem hd.tw4402725079659364252:True:=⟨⟩
theorem hd.tw442638132926106271:True:=⟨⟩
theorem hd.tw4449123307109862055:True:=⟨⟩
theorem hd.tw4478166936697009375:True:=⟨⟩
theorem hd.tw4478177076189095293:True:=⟨⟩
theorem hd.tw4494801613693538912:True:=⟨⟩
theorem hd.tw461538923250603899:True:=⟨⟩
theorem hd.tw4642405928176397000:True:=⟨⟩
theorem hd.tw4643362625855044894:True:=⟨⟩
theorem hd.tw464777395874653626:True:=⟨⟩
theorem hd.tw4654797750381630734:True:=⟨⟩
theorem hd.tw4702841417184801058:True:=⟨⟩
theorem hd.tw4706079058837389440:True:=⟨⟩
theorem hd.tw4788038989552484473:True:=⟨⟩
theorem hd.tw4817003022231809500:True:=⟨⟩
theorem hd.tw4819202231147424091:True:=⟨⟩
theorem hd.tw4851647983119433812:True:=⟨⟩
theorem hd.tw4856431653887292112:True:=⟨⟩
theorem hd.tw4870687313549177768:True:=⟨⟩
theorem hd.tw4971549296188076032:True:=⟨⟩
theorem hd.tw4990156530697904881:True:=⟨⟩
theorem hd.tw4993660671451451078:True:=⟨⟩
theorem hd.tw5009564483982726761:True:=⟨⟩
theorem hd.tw5010264101278932077:True:=⟨⟩
theorem hd.tw5036846961687405229:True:=⟨⟩
theorem hd.tw5054737718236178183:True:=⟨⟩
theorem hd.tw5130813555471234732:True:=⟨⟩
theorem hd.tw5138769234217329475:True:=⟨⟩
theorem hd.tw5148922909946612681:True:=⟨⟩
theorem hd.tw5167245352685981253:True:=⟨⟩
theorem hd.tw5190246844813560578:True:=⟨⟩
theorem hd.tw519851828213033955:True:=⟨⟩
theorem hd.tw5238241317806426387:True:=⟨⟩
theorem hd.tw526207354791536317:True:=⟨⟩
theorem hd.tw5278057926702712004:True:=⟨⟩
theorem hd.tw5283464899586487735:True:=⟨⟩
theorem hd.tw5292301768408028288:True:=⟨⟩
theorem hd.tw5318216170032084099:True:=⟨⟩
theorem hd.tw5343241284826551009:True:=⟨⟩
theorem hd.tw5363564295841288755:True:=⟨⟩
theorem hd.tw5366084841770067474:True:=⟨⟩
theorem hd.tw5367627127759910665:True:=⟨⟩
theorem hd.tw5373601922739893978:True:=⟨⟩
theorem hd.tw5388632664720090651:True:=⟨⟩
theorem hd.tw541196102884509978:True:=⟨⟩
theorem hd.tw5416991563250132298:True:=⟨⟩
theorem hd.tw5486487638281291605:True:=⟨⟩
theorem hd.tw5505005885091257285:True:=⟨⟩
theorem hd.tw5505332120971382143:True:=⟨⟩
theorem hd.tw5511420028821071320:True:=⟨⟩
theorem hd.tw5562173858411828344:True:=⟨⟩
theorem hd.tw5592360268479517082:True:=⟨⟩
theorem hd.tw5608270528595127837:True:=⟨⟩
theorem hd.tw561391293025646643:True:=⟨⟩
theorem hd.tw5629675986466331604:True:=⟨⟩
theorem hd.tw5635641802508607975:True:=⟨⟩
theorem hd.tw5657824000916062451:True:=⟨⟩
theorem hd.tw5715356086224469760:True:=⟨⟩
theorem hd.tw5716766192118558609:True:=⟨⟩
theorem hd.tw5732804406350252772:True:=⟨⟩
theorem hd.tw5873113503399164460:True:=⟨⟩
theorem hd.tw5899666649113621702:True:=⟨⟩
theorem hd.tw5961118342813265553:True:=⟨⟩
theorem hd.tw5976792059365374437:True:=⟨⟩
theorem hd.tw5987830557187376847:True:=⟨⟩
theorem hd.tw6046454685291232161:True:=⟨⟩
theorem hd.tw6060742912462422084:True:=⟨⟩
theorem hd.tw6079173187612997037:True:=⟨⟩
theorem hd.tw6082411064634330575:True:=⟨⟩
theorem hd.tw6123773746684550334:True:=⟨⟩
theorem hd.tw6136932545381038964:True:=⟨⟩
theorem hd.tw6164396464334811476:True:=⟨⟩
theorem hd.tw6184208073178115725:True:=⟨⟩
theorem hd.tw6184460063843016694:True:=⟨⟩
theorem hd.tw6186238094035137676:True:=⟨⟩
theorem hd.tw6264232113106981867:True:=⟨⟩
theorem hd.tw6276725880618359904:True:=⟨⟩
theorem hd.tw6291416237084387574:True:=⟨⟩
theorem hd.tw6293948785866598258:True:=⟨⟩
theorem hd.tw6305734824756694309:True:=⟨⟩
theorem hd.tw6308581086252854402:True:=⟨⟩
theorem hd.tw6320253292602491972:True:=⟨⟩
theorem hd.tw6394381022753523788:True:=⟨⟩
theorem hd.tw6407587892757256292:True:=⟨⟩
theorem hd.tw6411954120941647267:True:=⟨⟩
theorem hd.tw6423634429210846174:True:=⟨⟩
theorem hd.tw6438293893037913957:True:=⟨⟩
theorem hd.tw6442067068224118133:True:=⟨⟩
theorem hd.tw6449127861642672459:True:=⟨⟩
theorem hd.tw6469175993241445255:True:=⟨⟩
theorem hd.tw6528754448969337418:True:=⟨⟩
theorem hd.tw6545403380812914513:True:=⟨⟩
theorem hd.tw6547078798241139092:True:=⟨⟩
theorem hd.tw6555240042291301478:True:=⟨⟩
theorem hd.tw6578402527460240241:True:=⟨⟩
theorem hd.tw6615107907471364465:True:=⟨⟩
theorem hd.tw6615925807384083543:True:=⟨⟩
theorem hd.tw6627881031435992008:True:=⟨⟩
theorem hd.tw663384727985864361:True:=⟨⟩
theorem hd.tw6636792957720756321:True:=⟨⟩
theorem hd.tw6683769817339685419:True:=⟨⟩
theorem hd.tw6755925336976613232:True:=⟨⟩
theorem hd.tw6759412095888398321:True:=⟨⟩
theorem hd.tw6767318904944593275:True:=⟨⟩
theorem hd.tw678209747344391502:True:=⟨⟩
theorem hd.tw6785817131721698500:True:=⟨⟩
theorem hd.tw6804821044290156842:True:=⟨⟩
theorem hd.tw6819123309680001836:True:=⟨⟩
theorem hd.tw6820862383352777685:True:=⟨⟩
theorem hd.tw6830512106363814048:True:=⟨⟩
theorem hd.tw6868836192036940282:True:=⟨⟩
theorem hd.tw6882427118574961969:True:=⟨⟩
theorem hd.tw6906073325868019850:True:=⟨⟩
theorem hd.tw6924109203229866365:True:=⟨⟩
theorem hd.tw6931407450589930559:True:=⟨⟩
theorem hd.tw6949393925629115068:True:=⟨⟩
theorem hd.tw6965799899956892507:True:=⟨⟩
theorem hd.tw697623264460660564:True:=⟨⟩
theorem hd.tw6982297934935202809:True:=⟨⟩
theorem hd.tw6990203504111849199:True:=⟨⟩
theorem hd.tw6998783941825042932:True:=⟨⟩
theorem hd.tw701787995468756871:True:=⟨⟩
theorem hd.tw7028611270464810887:True:=⟨⟩
theorem hd.tw7068711184596962023:True:=⟨⟩
theorem hd.tw7080932558258925280:True:=⟨⟩
theorem hd.tw7082855905992002993:True:=⟨⟩
theorem hd.tw7085514621470718492:True:=⟨⟩
theorem hd.tw7120233287515763914:True:=⟨⟩
theorem hd.tw7145769029896464299:True:=⟨⟩
theorem hd.tw7153062008950511462:True:=⟨⟩
theorem hd.tw7191455744419660376:True:=⟨⟩
theorem hd.tw7261450039545342454:True:=⟨⟩
theorem hd.tw7270182246851987180:True:=⟨⟩
theorem hd.tw728884934406724761:True:=⟨⟩
theorem hd.tw7289634563603522867:True:=⟨⟩
theorem hd.tw7292484366425897655:True:=⟨⟩
theorem hd.tw7296583596125217682:True:=⟨⟩
theorem hd.tw7354087734392854552:True:=⟨⟩
theorem hd.tw7355570028127101125:True:=⟨⟩
theorem hd.tw7366208706002141716:True:=⟨⟩
theorem hd.tw7369741819223213686:True:=⟨⟩
theorem hd.tw7372000682148998216:True:=⟨⟩
theorem hd.tw7379015992945566340:True:=⟨⟩
theorem hd.tw7492773218913965947:True:=⟨⟩
theorem hd.tw7494724483528729301:True:=⟨⟩
theorem hd.tw7510230149288206974:True:=⟨⟩
theorem hd.tw7512474625130614241:True:=⟨⟩
theorem hd.tw7519716089354478335:True:=⟨⟩
theorem hd.tw7525542149764818722:True:=⟨⟩
theorem hd.tw7534799579077118603:True:=⟨⟩
theorem hd.tw7540655947842036084:True:=⟨⟩
theorem hd.tw7540741092611519060:True:=⟨⟩
theorem hd.tw7541792107247259296:True:=⟨⟩
theorem hd.tw7578210074245671484:True:=⟨⟩
theorem hd.tw758273949599710562:True:=⟨⟩
theorem hd.tw7598622570094877466:True:=⟨⟩
theorem hd.tw7610815399733428385:True:=⟨⟩
theorem hd.tw7654286748164834634:True:=⟨⟩
theorem hd.tw7676003278276379012:True:=⟨⟩
theorem hd.tw7698358502638924378:True:=⟨⟩
theorem hd.tw7721951785955056133:True:=⟨⟩
theorem hd.tw7746578258024575070:True:=⟨⟩
theorem hd.tw7752569895197466512:True:=⟨⟩
theorem hd.tw7752767780024739350:True:=⟨⟩
theorem hd.tw7754304195085646258:True:=⟨⟩
theorem hd.tw7763873220885509757:True:=⟨⟩
theorem hd.tw7792395482447073224:True:=⟨⟩
theorem hd.tw7793673504863384051:True:=⟨⟩
theorem hd.tw7854228177987924090:True:=⟨⟩
theorem hd.tw7880807054014371918:True:=⟨⟩
theorem hd.tw7927469264209771579:True:=⟨⟩
theorem hd.tw799355135909283525:True:=⟨⟩
theorem hd.tw8004679753235328684:True:=⟨⟩
theorem hd.tw8004756346496587371:True:=⟨⟩
theorem hd.tw8015326511298524721:True:=⟨⟩
theorem hd.tw8025032847418708242:True:=⟨⟩
theorem hd.tw8044012406986999415:True:=⟨⟩
theorem hd.tw8047900516022102942:True:=⟨⟩
theorem hd.tw8053944837975664402:True:=⟨⟩
theorem hd.tw8068729725432388964:True:=⟨⟩
theorem hd.tw8081886968326746073:True:=⟨⟩
theorem hd.tw8112040973832200146:True:=⟨⟩
theorem hd.tw8117029840178788049:True:=⟨⟩
theorem hd.tw8134915037123179040:True:=⟨⟩
theorem hd.tw8191903926673212241:True:=⟨⟩
theorem hd.tw8210421348078903774:True:=⟨⟩
theorem hd.tw8226494294326810461:True:=⟨⟩
theorem hd.tw8242931771332617035:True:=⟨⟩
theorem hd.tw8244733829118024811:True:=⟨⟩
theorem hd.tw825126770350376351:True:=⟨⟩
theorem hd.tw8269573656231971908:True:=⟨⟩
theorem hd.tw8312999807965096350:True:=⟨⟩
theorem hd.tw8317466277049474617:True:=⟨⟩
theorem hd.tw8343274005884668182:True:=⟨⟩
theorem hd.tw8351282476255451920:True:=⟨⟩
theorem hd.tw8356816923877370021:True:=⟨⟩
theorem hd.tw8381844023166312768:True:=⟨⟩
theorem hd.tw8428860471423672150:True:=⟨⟩
theorem hd.tw845060206244984605:True:=⟨⟩
theorem hd.tw8458067239894703972:True:=⟨⟩
theorem hd.tw8479784124755550697:True:=⟨⟩
theorem hd.tw8493152586797012548:True:=⟨⟩
theorem hd.tw8516288146210602744:True:=⟨⟩
theorem hd.tw8545014587354053640:True:=⟨⟩
theorem hd.tw8589211134812392127:True:=⟨⟩
theorem hd.tw8609351116199087170:True:=⟨⟩
theorem hd.tw8652628183442184457:True:=⟨⟩
theorem hd.tw8664936974563722654:True:=⟨⟩
theorem hd.tw8671608845466749128:True:=⟨⟩
theorem hd.tw8683856772340465682:True:=⟨⟩
theorem hd.tw8716120427605611371:True:=⟨⟩
theorem hd.tw8727321023445011275:True:=⟨⟩
theorem hd.tw876933089483189297:True:=⟨⟩
theorem hd.tw8770205317985620760:True:=⟨⟩
theorem hd.tw8789358453043137523:True:=⟨⟩
theorem hd.tw881544763273948857:True:=⟨⟩
theorem hd.tw8934143017859847078:True:=⟨⟩
theorem hd.tw8960069828448710407:True:=⟨⟩
theorem hd.tw8965841893048198262:True:=⟨⟩
theorem hd.tw9013056391748086436:True:=⟨⟩
theorem hd.tw9073681462420916055:True:=⟨⟩
theorem hd.tw9077708301081682751:True:=⟨⟩
theorem hd.tw9087110039335098043:True:=⟨⟩
theorem hd.tw9132557439983319658:True:=⟨⟩
theorem hd.tw9153386212771759811:True:=⟨⟩
theorem hd.tw9155422001095189878:True:=⟨⟩
theorem hd.tw9170477692918782315:True:=⟨⟩
theorem hd.tw9184186324627900627:True:=⟨⟩
theorem hd.tw922143313871775805:True:=⟨⟩
theorem hd.tw9228397985900620932:True:=⟨⟩
theorem hd.tw9244321171653502345:True:=⟨⟩
theorem hd.tw9271970288684553227:True:=⟨⟩
theorem hd.tw9277588360372424766:True:=⟨⟩
theorem hd.tw9298403506768410418:True:=⟨⟩
theorem hd.tw9325612240067072397:True:=⟨⟩
theorem hd.tw9330943631129107780:True:=⟨⟩
theorem hd.tw9345676750909349944:True:=⟨⟩
theorem hd.tw9345929723534960622:True:=⟨⟩
theorem hd.tw9386895884608548742:True:=⟨⟩
theorem hd.tw9398405308114057262:True:=⟨⟩
theorem hd.tw9406673726873002282:True:=⟨⟩
theorem hd.tw9421340871869096474:True:=⟨⟩
theorem hd.tw9427301549700849589:True:=⟨⟩
theorem hd.tw9430268157657104642:True:=⟨⟩
theorem hd.tw9449090799628755676:True:=⟨⟩
theorem hd.tw9449672872311958731:True:=⟨⟩
theorem hd.tw9496365245306024149:True:=⟨⟩
theorem hd.tw9499510787657705874:True:=⟨⟩
theorem hd.tw9533747618267967006:True:=⟨⟩
theorem hd.tw9566141503761928105:True:=⟨⟩
theorem hd.tw9577689765879766989:True:=⟨⟩
theorem hd.tw9641152695372364146:True:=⟨⟩
theorem hd.tw9673543361469618366:True:=⟨⟩
theorem hd.tw9702936160620672325:True:=⟨⟩
theorem hd.tw9719896912496429819:True:=⟨⟩
theorem hd.tw9731375825926819010:True:=⟨⟩
theorem hd.tw9741134391959003819:True:=⟨⟩
theorem hd.tw9748044761591592747:True:=⟨⟩
theorem hd.tw9908193460736022307:True:=⟨⟩
theorem hd.tw991583007596301734:True:=⟨⟩
theorem hd.tw9983995961361265002:True:=⟨⟩
set_option Elab.async true in
set_option maxHeartbeats 8000000 in
theorem hd:PySem.Challenge.rw_pf0067_01.Holds:=by
 w_on
 o_law
 k_head
 (case hw=>w_witness2)
 intro w s₀ s₁ mg mb G Y fa o pm cd doc dV kV ho hd' hcd hD hmg hg args vals as hpre hlay hrd hwl hlo
 have KX:=km_in_of Y
 have hT8:=km_tabs_of Y
 have T:=G.T
 clear Y G hD hcd hd' ho
 have hwl':=hwl
 have hlo':=hlo
 have hrd':=hrd
 wrow_args hpre hlay hrd hwl hlo
 refine enter_call ?_
 refine kn_post (tabs:=[(845,843),(840,836)]) (List.forall_mem_cons.mpr ⟨⟨codeHd_of_K (c:=845) (P:=843) KX (by kernel_rfl),hT8 843 (by decide)⟩,List.forall_mem_cons.mpr ⟨⟨codeHd_of_K (c:=840) (P:=836) KX (by kernel_rfl),hT8 836 (by decide)⟩,fun _ h=>nomatch h⟩⟩) (fun _ _=>rfl) ?_
 obtain ⟨vs,ha,hi⟩:=Internal.args_ok hwl'
 have hn:=hlo' _ (Internal.addr_in hrd')
 exact Internal.join ⟨KX,⟨by kernel_rfl,by kernel_rfl,by kernel_rfl,by kernel_rfl,by kernel_rfl,by kernel_rfl,by kernel_rfl,by kernel_rfl,by kernel_rfl⟩,T.g,T.b,T.nolimit,T.builtins,T.bmain,hT8⟩ hmg (by omega) ha hi (fun q=>by rw [q] at hn;exact nomatch hn) fun h' tk k1 k2 k3=>Internal.good_end hg (fun _=>rfl) (by kernel_rfl) k1 k2 k3
end Mine
theorem PySem.Challenge.cw_pf0067_01_holds : PySem.Challenge.rw_pf0067_01.Holds :=
 Mine.hd
